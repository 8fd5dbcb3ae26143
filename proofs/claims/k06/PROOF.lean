import PyProof.Rows.All
import Wide.All
import OpenK.AllK
import Wide.FinOn
import HandS.ForMost
import HandS.ForExc
import HandS.TupAny
import HandS.TupLe
import HandS.IsInst
import HandS.Deep
import HandS.Flow
import HandS.Wide
import HandS.RaiseMore
import HandS.TryMany
import HandS.ExcIs
import HandS.ExcField
import HandS.ExcInit
import HandS.ExcValue
import KE.KExcIs
import HandS.Replace
import HandS.Zip
import HandS.Small
import HandS.EndOwn
import HandS.ExcOwn
import PySem.Challenge.RW_pullpush_k06_takers
set_option Elab.async false
set_option linter.all false
set_option maxRecDepth 100000
/-! TL1: values as trees, abstract tree heaps, how they lie in the hand layer's heaps; readings lifted. -/
namespace TL
open PySem PySem.Spec L2

/-- a value: tuples and read-only lists are trees, all that may change is a reference -/
inductive TV where
  | non | bl (b : Bool) | int (i : Int) | str (x : Str) | tup (l : List TV) | rol (l : List TV) | ref (a : Addr)
instance : Inhabited TV := ⟨.non⟩
/-- what may change -/
inductive TO where
  | lst (l : List TV) | dct (kvs : List (Key × TV)) | ins (c : Str) (fs : List (Str × TV)) | exc (c : Str) (fs : List (Str × TV))
abbrev TH := Addr → Option TO
def tupd (H : TH) (a : Addr) (o : TO) : TH := fun b => if b = a then some o else H b
theorem tupd_same {H : TH} {a : Addr} {o : TO} : tupd H a o a = some o := if_pos rfl
theorem tupd_ne {H : TH} {a b : Addr} {o : TO} (h : b ≠ a) : tupd H a o b = H b := if_neg h
/-- an exception: the name of its class, its fields -/
structure TExc where
  cls : Str
  fs : List (Str × TV)
/-- an exception that is no longer in the air (or not yet) -/
def ExR (cls : Value) (d : Option Addr) (a : Addr) : HO := .ext fun h => ∃ (oe : Obj) (vs : Array Value), h.get? a = some oe ∧ Zc cls d oe ∧ oe.data = .fields vs
abbrev TSt := List (Option TV)
abbrev TQ := TV → TH → Prop
abbrev TX := TExc → TH → Prop

section
variable (K : PySem.W.Frag) (mg : Str → Option Value)
/-- a list that nobody changes -/
def SqR (H : Hp) (a : Addr) (xs : List V) : Prop :=
  (∃ o, H a = some (.frz o (.lst xs))) ∨
    ∃ (its : Array Value) (n : Nat), K.lookup a = some { cls := .type "list", data := .seq its n } ∧ its.size ≤ sizeLine ∧ Vals xs its.toList
mutual
inductive RT (H : Hp) : TV → V → Prop
  | non : RT H .non .non
  | bl (b : Bool) : RT H (.bl b) (.bl b)
  | int (i : Int) : RT H (.int i) (.int i)
  | str (x : Str) : RT H (.str x) (.str x)
  | tup {a : Addr} {vs : List V} {l : List TV} : SqT K H a vs → RTs H l vs → RT H (.tup l) (.ref a)
  | rol {a : Addr} {vs : List V} {l : List TV} : SqR K H a vs → RTs H l vs → RT H (.rol l) (.ref a)
  | ref (a : Addr) : RT H (.ref a) (.ref a)
inductive RTs (H : Hp) : List TV → List V → Prop
  | nil : RTs H [] []
  | cons {x : TV} {xs : List TV} {v : V} {vs : List V} : RT H x v → RTs H xs vs → RTs H (x :: xs) (v :: vs)
end
/-- pairs with like keys -/
inductive RKs {κ : Type} (H : Hp) : List (κ × TV) → List (κ × V) → Prop
  | nil : RKs H [] []
  | cons {k : κ} {x : TV} {v : V} {xs : List (κ × TV)} {vs : List (κ × V)} : RT K H x v → RKs H xs vs → RKs H ((k, x) :: xs) ((k, v) :: vs)
/-- an exception's fields lie in its dict -/
def XFs (H : Hp) (d : Option Addr) (fs : List (Str × TV)) : Prop := (d = none ∧ fs = []) ∨ ∃ d0 vs, d = some d0 ∧ H d0 = some (.xd vs) ∧ RKs K H fs vs
/-- an object that may change, as it lies -/
def RO (H : Hp) (a : Addr) : TO → Prop
  | .lst l => ∃ vs, H a = some (.lst vs) ∧ RTs K H l vs
  | .dct kvs => ∃ vs, H a = some (.dK vs) ∧ RKs K H kvs vs
  | .ins c fs => ∃ C dx vs, mg c = some (.ref C) ∧ H a = some (.ins C dx vs) ∧ RKs K H fs vs
  | .exc c fs => ∃ C d, mg c = some (.ref C) ∧ H a = some (ExR (.ref C) d a) ∧ XFs K H d fs
def RH (H : TH) (H' : Hp) : Prop := ∀ a o, H a = some o → RO K mg H' a o
def RS (H' : Hp) (σ : TSt) (σ' : St) : Prop := σ.length = σ'.length ∧ ∀ (i : Nat) (x : TV), σ[i]? = some (some x) → ∃ v, σ'[i]? = some (some v) ∧ RT K H' x v
def RX (H' : Hp) (e : TExc) (c : Value) (d : Option Addr) : Prop := ∃ C, mg e.cls = some (.ref C) ∧ c = .ref C ∧ XFs K H' d e.fs
end
/-- what never changes is kept -/
structure Keep (H H' : Hp) : Prop where
  t : ∀ b xs, H b = some (.tup xs) → H' b = some (.tup xs)
  f : ∀ b o u, H b = some (.frz o u) → H' b = some (.frz o u)
  x : ∀ b fs, H b = some (.xd fs) → H' b = some (.xd fs)
theorem Keep.refl (H : Hp) : Keep H H := ⟨fun _ _ h => h, fun _ _ _ h => h, fun _ _ h => h⟩
theorem Keep.trans {H H1 H2 : Hp} (a : Keep H H1) (b : Keep H1 H2) : Keep H H2 := ⟨fun c xs h => b.t c xs (a.t c xs h), fun c o u h => b.f c o u (a.f c o u h), fun c xs h => b.x c xs (a.x c xs h)⟩
theorem Keep.new {H : Hp} {p : Addr} {o : HO} (h : H p = none) : Keep H (upd H p o) :=
  ⟨fun b xs e => by rw [upd_ne (ne_of_none e h)]; exact e, fun b o u e => by rw [upd_ne (ne_of_none e h)]; exact e, fun b xs e => by rw [upd_ne (ne_of_none e h)]; exact e⟩
theorem Keep.put {H : Hp} {p : Addr} {u o : HO} (h : H p = some u) (h1 : ∀ xs, u ≠ .tup xs) (h2 : ∀ o v, u ≠ .frz o v) (h3 : ∀ fs, u ≠ .xd fs := by intro _ z; cases z) : Keep H (upd H p o) :=
  ⟨fun b xs e => by rw [upd_ne (ne_of e h fun z => h1 xs z.symm)]; exact e, fun b o v e => by rw [upd_ne (ne_of e h fun z => h2 o v z.symm)]; exact e, fun b fs e => by rw [upd_ne (ne_of e h fun z => h3 fs z.symm)]; exact e⟩

section
variable {K : PySem.W.Frag} {mg : Str → Option Value} {H H' : Hp}
theorem Keep.sqT (k : Keep H H') {a : Addr} {xs : List V} (h : SqT K H a xs) : SqT K H' a xs := by
  rcases h with (h | ⟨o, h⟩) | h
  · exact .inl (.inl (k.t _ _ h))
  · exact .inl (.inr ⟨o, k.f _ _ _ h⟩)
  · exact .inr h
theorem Keep.sqR (k : Keep H H') {a : Addr} {xs : List V} (h : SqR K H a xs) : SqR K H' a xs := by
  rcases h with ⟨o, h⟩ | h
  · exact .inl ⟨o, k.f _ _ _ h⟩
  · exact .inr h
theorem SqR.l {a : Addr} {xs : List V} (h : SqR K H a xs) : SqL K H a xs := by
  rcases h with ⟨o, h⟩ | h
  · exact .inl (.inr ⟨o, h⟩)
  · obtain ⟨its, n, e, z, r⟩ := h
    exact .inr ⟨_, its, n, e, rfl, rfl, rfl, z, r⟩
mutual
theorem RT.keep (k : Keep H H') : ∀ {x : TV} {v : V}, RT K H x v → RT K H' x v
  | _, _, .non => .non
  | _, _, .bl b => .bl b
  | _, _, .int i => .int i
  | _, _, .str x => .str x
  | _, _, .tup h t => .tup (k.sqT h) (RTs.keep k t)
  | _, _, .rol h t => .rol (k.sqR h) (RTs.keep k t)
  | _, _, .ref a => .ref a
theorem RTs.keep (k : Keep H H') : ∀ {xs : List TV} {vs : List V}, RTs K H xs vs → RTs K H' xs vs
  | _, _, .nil => .nil
  | _, _, .cons a b => .cons (RT.keep k a) (RTs.keep k b)
end
theorem RKs.keep {κ : Type} (k : Keep H H') : ∀ {xs : List (κ × TV)} {vs : List (κ × V)}, RKs K H xs vs → RKs K H' xs vs
  | _, _, .nil => .nil
  | _, _, .cons a b => .cons (a.keep k) (RKs.keep k b)
theorem RTs.length : ∀ {xs : List TV} {vs : List V}, RTs K H xs vs → xs.length = vs.length
  | _, _, .nil => rfl
  | _, _, .cons _ b => by simp [RTs.length b]
theorem RTs.get : ∀ {xs : List TV} {vs : List V} {i : Nat} {x : TV}, RTs K H xs vs → xs[i]? = some x → ∃ v, vs[i]? = some v ∧ RT K H x v
  | _, _, _, _, .nil, e => by simp at e
  | _, _, 0, _, .cons a _, e => by simp at e; subst e; exact ⟨_, rfl, a⟩
  | _, _, i + 1, _, .cons _ b, e => by simpa using RTs.get (i := i) b (by simpa using e)
theorem RTs.get' : ∀ {xs : List TV} {vs : List V} {i : Nat} {v : V}, RTs K H xs vs → vs[i]? = some v → ∃ x, xs[i]? = some x ∧ RT K H x v
  | _, _, _, _, .nil, e => by simp at e
  | _, _, 0, _, .cons a _, e => by simp at e; subst e; exact ⟨_, rfl, a⟩
  | _, _, i + 1, _, .cons _ b, e => by simpa using RTs.get' (i := i) b (by simpa using e)
theorem RTs.append : ∀ {xs ys : List TV} {vs ws : List V}, RTs K H xs vs → RTs K H ys ws → RTs K H (xs ++ ys) (vs ++ ws)
  | _, _, _, _, .nil, s => s
  | _, _, _, _, .cons a b, s => .cons a (RTs.append b s)
theorem RTs.take : ∀ (n : Nat) {xs : List TV} {vs : List V}, RTs K H xs vs → RTs K H (xs.take n) (vs.take n)
  | 0, _, _, _ => .nil
  | _ + 1, _, _, .nil => .nil
  | n + 1, _, _, .cons a b => .cons a (RTs.take n b)
theorem RTs.drop : ∀ (n : Nat) {xs : List TV} {vs : List V}, RTs K H xs vs → RTs K H (xs.drop n) (vs.drop n)
  | 0, _, _, r => r
  | _ + 1, _, _, .nil => .nil
  | n + 1, _, _, .cons _ b => RTs.drop n b
theorem RTs.set {x : TV} {v : V} (r : RT K H x v) : ∀ (i : Nat) {xs : List TV} {vs : List V}, RTs K H xs vs → RTs K H (xs.set i x) (vs.set i v)
  | _, _, _, .nil => .nil
  | 0, _, _, .cons _ b => .cons r b
  | i + 1, _, _, .cons a b => .cons a (RTs.set r i b)
theorem RTs.ints : ∀ (ns : List Int), RTs K H (ns.map TV.int) (ns.map V.int)
  | [] => .nil
  | n :: ns => .cons (.int n) (RTs.ints ns)
theorem RTs.strs : ∀ (ns : List Str), RTs K H (ns.map TV.str) (ns.map V.str)
  | [] => .nil
  | n :: ns => .cons (.str n) (RTs.strs ns)
theorem RTs.rep {x : TV} {v : V} (r : RT K H x v) : ∀ (n : Nat), RTs K H (List.replicate n x) (List.replicate n v)
  | 0 => .nil
  | n + 1 => .cons r (RTs.rep r n)
theorem RKs.length {κ : Type} : ∀ {xs : List (κ × TV)} {vs : List (κ × V)}, RKs K H xs vs → xs.length = vs.length
  | _, _, .nil => rfl
  | _, _, .cons _ b => by simp [RKs.length b]
theorem XFs.keep (k : Keep H H') {d : Option Addr} {fs : List (Str × TV)} (h : XFs K H d fs) : XFs K H' d fs := by
  rcases h with h | ⟨d0, vs, e1, e2, e3⟩
  · exact .inl h
  · exact .inr ⟨d0, vs, e1, k.x _ _ e2, e3.keep k⟩
theorem RO.keep {a : Addr} {o : TO} (e : H' a = H a) (k : Keep H H') (r : RO K mg H a o) : RO K mg H' a o := by
  cases o with
  | lst l => obtain ⟨vs, h, t⟩ := r; exact ⟨vs, e.trans h, t.keep k⟩
  | dct l => obtain ⟨vs, h, t⟩ := r; exact ⟨vs, e.trans h, t.keep k⟩
  | ins c l => obtain ⟨C, dx, vs, m, h, t⟩ := r; exact ⟨C, dx, vs, m, e.trans h, t.keep k⟩
  | exc c l => obtain ⟨C, d, m, h, t⟩ := r; exact ⟨C, d, m, e.trans h, t.keep k⟩
theorem RO.some {a : Addr} {o : TO} (r : RO K mg H a o) : ∃ u, H a = some u := by
  cases o with
  | lst l => obtain ⟨vs, h, t⟩ := r; exact ⟨_, h⟩
  | dct l => obtain ⟨vs, h, t⟩ := r; exact ⟨_, h⟩
  | ins c l => obtain ⟨C, dx, vs, m, h, t⟩ := r; exact ⟨_, h⟩
  | exc c l => obtain ⟨C, d, m, h, t⟩ := r; exact ⟨_, h⟩
theorem RH.free {T : TH} (r : RH K mg T H) {p : Addr} (h : H p = none) : T p = none := by
  cases q : T p with
  | none => rfl
  | some o =>
    obtain ⟨u, e⟩ := (r p o q).some
    rw [h] at e; cases e
/-- a new object that the tree heap does not know (a tuple, an iterator's tuple ..) -/
theorem RH.new {T : TH} (r : RH K mg T H) {p : Addr} {o : HO} (h : H p = none) : RH K mg T (upd H p o) := fun a u e => by
  have ne : a ≠ p := fun z => by
    obtain ⟨w, q⟩ := (r a u e).some
    rw [z, h] at q; cases q
  exact (r a u e).keep (upd_ne ne) (.new h)
/-- a new object -/
theorem RH.add {T : TH} (r : RH K mg T H) {p : Addr} {o : HO} {t : TO} (h : H p = none) (w : RO K mg (upd H p o) p t) : RH K mg (tupd T p t) (upd H p o) := fun a u e => by
  by_cases ne : a = p
  · subst ne
    rw [tupd_same] at e; cases e
    exact w
  · rw [tupd_ne ne] at e
    exact r.new h a u e
/-- an object is changed -/
theorem RH.put {T : TH} (r : RH K mg T H) {p : Addr} {o : HO} {t : TO} (k : Keep H (upd H p o)) (w : RO K mg (upd H p o) p t) : RH K mg (tupd T p t) (upd H p o) := fun a u e => by
  by_cases ne : a = p
  · subst ne
    rw [tupd_same] at e; cases e
    exact w
  · rw [tupd_ne ne] at e
    exact (r a u e).keep (upd_ne ne) k
theorem RS.keep {σ : TSt} {σ' : St} (k : Keep H H') (r : RS K H σ σ') : RS K H' σ σ' := ⟨r.1, fun i x e => by
  obtain ⟨v, a, b⟩ := r.2 i x e
  exact ⟨v, a, b.keep k⟩⟩
theorem RS.set {σ : TSt} {σ' : St} (r : RS K H σ σ') (i : Nat) {x : TV} {v : V} (q : RT K H x v) : RS K H (σ.set i (some x)) (σ'.set i (some v)) := ⟨by simp [r.1], fun j y e => by
  by_cases h : i = j
  · subst h
    by_cases hl : i < σ.length
    · rw [List.getElem?_set_self hl] at e
      have e' : x = y := by simpa using e
      subst e'
      exact ⟨v, List.getElem?_set_self (by rw [← r.1]; exact hl), q⟩
    · rw [List.getElem?_eq_none (by simpa using hl)] at e; cases e
  · rw [List.getElem?_set_ne h] at e
    obtain ⟨w, a, b⟩ := r.2 j y e
    exact ⟨w, by rw [List.getElem?_set_ne h]; exact a, b⟩⟩
theorem RS.forget {σ : TSt} {σ' : St} (r : RS K H σ σ') (i : Nat) {o : Option V} : RS K H (σ.set i none) (σ'.set i o) := ⟨by simp [r.1], fun j y e => by
  by_cases h : i = j
  · subst h
    by_cases hl : i < σ.length
    · rw [List.getElem?_set_self hl] at e
      simp at e
    · rw [List.getElem?_eq_none (by simpa using hl)] at e; cases e
  · rw [List.getElem?_set_ne h] at e
    obtain ⟨w, a, b⟩ := r.2 j y e
    exact ⟨w, by rw [List.getElem?_set_ne h]; exact a, b⟩⟩
theorem RX.keep {e : TExc} {c : Value} {d : Option Addr} (k : Keep H H') (r : RX K mg H e c d) : RX K mg H' e c d := by
  obtain ⟨C, a, b, h⟩ := r
  exact ⟨C, a, b, h.keep k⟩
end

/-! ### a step: what never changes is kept, what is there and not known stays as it is and unknown -/
structure Stp (T : TH) (H : Hp) (T' : TH) (H' : Hp) : Prop where
  k : Keep H H'
  fr : ∀ a, T a = none → H a ≠ none → T' a = none ∧ H' a = H a
theorem Stp.refl (H : Hp) {T : TH} : Stp T H T H := ⟨.refl H, fun _ h _ => ⟨h, rfl⟩⟩
theorem Stp.trans {T T1 T2 : TH} {H H1 H2 : Hp} (a : Stp T H T1 H1) (b : Stp T1 H1 T2 H2) : Stp T H T2 H2 := ⟨a.k.trans b.k, fun c h n => by
  obtain ⟨h1, e1⟩ := a.fr c h n
  obtain ⟨h2, e2⟩ := b.fr c h1 (by rw [e1]; exact n)
  exact ⟨h2, e2.trans e1⟩⟩
theorem Stp.new {T T' : TH} {H : Hp} {p : Addr} {o : HO} (h : H p = none) (e : ∀ a, a ≠ p → T' a = T a := by first | exact fun _ _ => rfl | exact fun _ z => tupd_ne z) : Stp T H T' (upd H p o) := ⟨.new h, fun a ht n => by
  have ne : a ≠ p := fun z => n (by rw [z]; exact h)
  exact ⟨by rw [e a ne]; exact ht, upd_ne ne⟩⟩
theorem Stp.put {T : TH} {H : Hp} {p : Addr} {o : HO} {t u : TO} (h : T p = some u) (k : Keep H (upd H p o)) : Stp T H (tupd T p t) (upd H p o) := ⟨k, fun a ht n => by
  have ne : a ≠ p := fun z => by rw [z, h] at ht; cases ht
  exact ⟨by rw [tupd_ne ne]; exact ht, upd_ne ne⟩⟩

/-! ### what is wanted, lowered -/
section
variable (K : PySem.W.Frag) (mg : Str → Option Value)
/-- of a value -/
def KQ (T0 : TH) (H : Hp) (Q : TQ) (Q' : VK) : Prop := ∀ x T v H', Q x T → RT K H' x v → RH K mg T H' → Stp T0 H T H' → Q' v H'
/-- of an exception -/
def KX (T0 : TH) (H : Hp) (E : TX) (E' : XK) : Prop := ∀ e T c d H', E e T → RX K mg H' e c d → RH K mg T H' → Stp T0 H T H' → E' c d H'
def KB (T0 : TH) (H : Hp) (Q : Bool → TH → Prop) (Q' : Bool → Hp → Prop) : Prop := ∀ b T H', Q b T → RH K mg T H' → Stp T0 H T H' → Q' b H'
def KA (T0 : TH) (H : Hp) (Q : List TV → TH → Prop) (Q' : List V → Hp → Prop) : Prop := ∀ x T v H', Q x T → RTs K H' x v → RH K mg T H' → Stp T0 H T H' → Q' v H'
def KS (T0 : TH) (H : Hp) (Q : TSt → TH → Prop) (Q' : L2.St → Hp → Prop) : Prop := ∀ σ T σ' H', Q σ T → RS K H' σ σ' → RH K mg T H' → Stp T0 H T H' → Q' σ' H'
end
section
variable {K : PySem.W.Frag} {mg : Str → Option Value} {T0 T1 : TH} {H H1 : Hp}
theorem KQ.on {Q : TQ} {Q' : VK} (h : KQ K mg T0 H Q Q') (k : Stp T0 H T1 H1) : KQ K mg T1 H1 Q Q' := fun x T v H' a b c d => h x T v H' a b c (k.trans d)
theorem KX.on {E : TX} {E' : XK} (h : KX K mg T0 H E E') (k : Stp T0 H T1 H1) : KX K mg T1 H1 E E' := fun x T v d H' a b c e => h x T v d H' a b c (k.trans e)
theorem KB.on {Q : Bool → TH → Prop} {Q' : Bool → Hp → Prop} (h : KB K mg T0 H Q Q') (k : Stp T0 H T1 H1) : KB K mg T1 H1 Q Q' := fun x T H' a c d => h x T H' a c (k.trans d)
theorem KA.on {Q : List TV → TH → Prop} {Q' : List V → Hp → Prop} (h : KA K mg T0 H Q Q') (k : Stp T0 H T1 H1) : KA K mg T1 H1 Q Q' := fun x T v H' a b c d => h x T v H' a b c (k.trans d)
theorem KS.on {Q : TSt → TH → Prop} {Q' : L2.St → Hp → Prop} (h : KS K mg T0 H Q Q') (k : Stp T0 H T1 H1) : KS K mg T1 H1 Q Q' := fun x T v H' a b c d => h x T v H' a b c (k.trans d)
end

/-! ### readings over trees, lifted to the hand layer's -/
abbrev TEx := TSt → TH → TX → TQ → Prop
abbrev TTx := TSt → TH → TX → (Bool → TH → Prop) → Prop
abbrev TAx := TSt → TH → TX → (List TV → TH → Prop) → Prop
/-- what is wanted behind a statement -/
structure TEnds where
  nx : TSt → TH → Prop
  rt : TQ
  bk : TSt → TH → Prop
  ct : TSt → TH → Prop
  ex : TExc → TSt → TH → Prop
abbrev TSx := TEnds → TSt → TH → Prop
section
variable (K : PySem.W.Frag) (mg : Str → Option Value) (W : WX)
def upE (t : TEx) : TE := fun σ' H' Q' => ∃ σ H E Q, RS K H' σ σ' ∧ RH K mg H H' ∧ t σ H E Q ∧ KQ K mg H H' Q Q' ∧ KX K mg H H' E (fun c d H1 => W c d σ' H1)
def upT (t : TTx) : TT := fun σ' H' Q' => ∃ σ H E Q, RS K H' σ σ' ∧ RH K mg H H' ∧ t σ H E Q ∧ KB K mg H H' Q Q' ∧ KX K mg H H' E (fun c d H1 => W c d σ' H1)
def upA (t : TAx) : TA := fun σ' H' Q' => ∃ σ H E Q, RS K H' σ σ' ∧ RH K mg H H' ∧ t σ H E Q ∧ KA K mg H H' Q Q' ∧ KX K mg H H' E (fun c d H1 => W c d σ' H1)
/-- the ends lowered -/
structure KD (T0 : TH) (H : Hp) (D : TEnds) (D' : Ends) : Prop where
  nx : KS K mg T0 H D.nx D'.nx
  rt : KQ K mg T0 H D.rt D'.rt
  bk : KS K mg T0 H D.bk D'.bk
  ct : KS K mg T0 H D.ct D'.ct
  ex : ∀ e σ T c d σ' H', D.ex e σ T → RS K H' σ σ' → RX K mg H' e c d → RH K mg T H' → Stp T0 H T H' → W c d σ' H'
def upS (t : TSx) : TS := fun D' σ' H' => ∃ σ H D, RS K H' σ σ' ∧ RH K mg H H' ∧ t D σ H ∧ KD K mg W H H' D D'
end
theorem KD.on {K : PySem.W.Frag} {mg : Str → Option Value} {W : WX} {T0 T1 : TH} {H H1 : Hp} {D : TEnds} {D' : Ends} (h : KD K mg W T0 H D D') (k : Stp T0 H T1 H1) : KD K mg W T1 H1 D D' :=
  ⟨h.nx.on k, h.rt.on k, h.bk.on k, h.ct.on k, fun e σ T c d σ' H' a b r q z => h.ex e σ T c d σ' H' a b r q (k.trans z)⟩
/-- a reading may be weakened -/
theorem pe_imp {X : Cx} {e : Expr} {t u : TE} (h : PE X e t) (i : ∀ σ H Q, u σ H Q → t σ H Q) : PE X e u := ⟨fun pins s σ H Q I q => h.run pins s σ H Q I (i _ _ _ q)⟩
theorem pt_imp {X : Cx} {e : Expr} {t u : TT} (h : PT X e t) (i : ∀ σ H Q, u σ H Q → t σ H Q) : PT X e u := ⟨fun pins s σ H Q I q => h.run pins s σ H Q I (i _ _ _ q)⟩
theorem pw_imp {X : Cx} {e : Expr} {t u : TT} (h : PW X e t) (i : ∀ σ H Q, u σ H Q → t σ H Q) : PW X e u := ⟨fun wh pins s σ H Q I q => h.run wh pins s σ H Q I (i _ _ _ q)⟩
theorem pa_imp {X : Cx} {e : List Expr} {t u : TA} (h : PA X e t) (i : ∀ σ H Q, u σ H Q → t σ H Q) : PA X e u := ⟨fun pos pins s σ H Q I q => h.run pos pins s σ H Q I (i _ _ _ q)⟩
theorem ps_imp {X : Cx} {e : Stmt} {t u : TS} (h : PS X e t) (i : ∀ D σ H, u D σ H → t D σ H) : PS X e u := ⟨fun pins s σ H D I q => h.run pins s σ H D I (i _ _ _ q)⟩
theorem pss_imp {X : Cx} {e : List Stmt} {t u : TS} (h : PSs X e t) (i : ∀ D σ H, u D σ H → t D σ H) : PSs X e u := ⟨fun pins s σ H D I q => h.run pins s σ H D I (i _ _ _ q)⟩
theorem pe_or2 {X : Cx} {e : Expr} {t u : TE} (h : PE X e t) (i : PE X e u) : PE X e (fun σ H Q => t σ H Q ∨ u σ H Q) := ⟨fun pins s σ H Q I q => q.elim (h.run pins s σ H Q I) (i.run pins s σ H Q I)⟩
theorem pe_false {X : Cx} {e : Expr} {t : TE} (h : ∀ σ H Q, ¬ t σ H Q) : PE X e t := ⟨fun pins s σ H Q I q => (h _ _ _ q).elim⟩
end TL


set_option Elab.async false
set_option linter.all false
set_option maxRecDepth 100000
/-! TL2: what an expression, a statement does, over trees: a computed reading. -/
namespace TL
open PySem PySem.Spec L2

/-! ### operations on values -/
/-- the items of a tuple or a list, and whether it is a tuple -/
def seqOf (H : TH) : TV → Option (Bool × List TV)
  | .tup l => some (true, l)
  | .rol l => some (false, l)
  | .ref a => match H a with
    | some (.lst l) => some (false, l)
    | _ => none
  | _ => none
/-- its truth -/
def truOf (H : TH) : TV → Option Bool
  | .non => some false
  | .bl b => some b
  | .int i => some (i != 0)
  | .str y => if y.length ≤ sizeLine then some ((y.length : Int) != 0) else none
  | .tup l => some (!l.isEmpty)
  | .rol l => some (!l.isEmpty)
  | .ref a => match H a with
    | some (.lst l) => some (!l.isEmpty)
    | some (.dct l) => some (!l.isEmpty)
    | _ => none
/-- the name of its built-in type, or of its class -/
def tyOf (H : TH) : TV → Option (Bool × Str)
  | .non => some (true, "NoneType")
  | .bl _ => some (true, "bool")
  | .int _ => some (true, "int")
  | .str _ => some (true, "str")
  | .tup _ => some (true, "tuple")
  | .rol _ => some (true, "list")
  | .ref a => match H a with
    | some (.lst _) => some (true, "list")
    | some (.dct _) => some (true, "dict")
    | some (.ins c _) => some (false, c)
    | some (.exc c _) => some (false, c)
    | none => none
def lenOf (H : TH) : TV → Option Nat
  | .str y => if y.length ≤ sizeLine then some y.length else none
  | .tup l => some l.length
  | .rol l => some l.length
  | .ref a => match H a with
    | some (.lst l) => some l.length
    | some (.dct l) => some l.length
    | _ => none
  | _ => none
/-- kinds, for ==: 0 none, 1 bool, 2 int, 3 str, 4 tuple, 5 list, 6 dict -/
def kindN (H : TH) : TV → Option Nat
  | .non => some 0
  | .bl _ => some 1
  | .int _ => some 2
  | .str _ => some 3
  | .tup _ => some 4
  | .rol _ => some 5
  | .ref a => match H a with
    | some (.lst _) => some 5
    | _ => none
def allKnown : List (Option Bool) → Option Bool
  | [] => some true
  | none :: _ => none
  | some b :: r => (allKnown r).map fun c => b && c
/-- x == y of flat values -/
def eqFlat : TV → TV → Option Bool
  | .non, .non => some true
  | .bl a, .bl b => some (a == b)
  | .bl a, .int j => some ((if a then (1 : Int) else 0) == j)
  | .int i, .bl b => some (i == (if b then (1 : Int) else 0))
  | .int i, .int j => some (i == j)
  | .str x, .str y => some (x == y)
  | _, _ => none
def eqSeq (f : TV → TV → Option Bool) (t : Bool) (l : List TV) (u : Bool) (m : List TV) : Option Bool :=
  if t != u then some false
  else if t then (allKnown (List.zipWith f l m)).map fun b => b && l.length == m.length
  else if l.length != m.length then some false else allKnown (List.zipWith f l m)
def eqKind (H : TH) (x y : TV) : Option Bool := match kindN H x, kindN H y with
  | some k, some j => if k == j || (k == 1 && j == 2) || (k == 2 && j == 1) then none else some false
  | _, _ => none
/-- x == y, where it is known; to depth n -/
def eqTV (H : TH) : Nat → TV → TV → Option Bool
  | 0, x, y => eqFlat x y
  | n + 1, x, y => match eqFlat x y with
    | some b => some b
    | none => match seqOf H x, seqOf H y with
      | some (t, l), some (u, m) => eqSeq (eqTV H n) t l u m
      | _, _ => eqKind H x y
/-- x in l -/
def inTV (H : TH) (x : TV) : List TV → Option Bool
  | [] => some false
  | y :: r => match eqTV H 60 y x, inTV H x r with
    | some b, some c => some (b || c)
    | _, _ => none

abbrev Need {α : Type} (o : Option α) (Q : α → Prop) : Prop := ∃ a, o = some a ∧ Q a

/-- + -/
def bAdd (x y : TV) (H : TH) (Q : TQ) : Prop := match x, y with
  | .int i, .int j => Q (.int (i + j)) H
  | .str a, .str b => a.length + b.length ≤ sizeLine ∧ Q (.str (a ++ b)) H
  | .tup a, .tup b => a.length + b.length ≤ sizeLine ∧ Q (.tup (a ++ b)) H
  | x, y => Need (seqOf H x) fun (t, l) => Need (seqOf H y) fun (u, m) => t = false ∧ u = false ∧ l.length + m.length ≤ sizeLine ∧ ∀ p, H p = none → Q (.ref p) (tupd H p (.lst (l ++ m)))
def bSub (x y : TV) (H : TH) (Q : TQ) : Prop := match x, y with
  | .int i, .int j => Q (.int (i - j)) H
  | _, _ => False
def bMul (x y : TV) (H : TH) (Q : TQ) : Prop := match x, y with
  | .int i, .int j => CMulW i j ∧ Q (.int (i * j)) H
  | .ref a, .int k => ∃ l, H a = some (.lst l) ∧ -(2 ^ 63) ≤ k ∧ k < 2 ^ 63 ∧ l.length * k.toNat ≤ sizeLine ∧ ∀ p, H p = none → Q (.ref p) (tupd H p (.lst (List.replicate k.toNat l).flatten))
  | .str a, .int k => PySem.MulOk a k ∧ Q (.str (PySem.Txt.mul a k)) H
  | _, _ => False
def bMod (x y : TV) (H : TH) (Q : TQ) : Prop := match x, y with
  | .int i, .int j => 0 < j ∧ Q (.int (i % j)) H
  | _, _ => False
def bDiv (x y : TV) (H : TH) (Q : TQ) : Prop := match x, y with
  | .int i, .int j => CDivW i j ∧ Q (.int (i / j)) H
  | _, _ => False
def bPow (x y : TV) (H : TH) (Q : TQ) : Prop := match x, y with
  | .int i, .int j => CPow i j ∧ Q (.int (i ^ j.toNat)) H
  | _, _ => False
def bOp (op : Operator) : TV → TV → TH → TQ → Prop := match op with
  | .Add => bAdd
  | .Sub => bSub
  | .Mult => bMul
  | .Mod => bMod
  | .FloorDiv => bDiv
  | .Pow => bPow
  | _ => fun _ _ _ _ => False
/-- built-in functions, by name -/
def intTV : TV → Option Int
  | .int i => some i
  | .bl b => some (if b then 1 else 0)
  | _ => none
def cInt (p : Int → Int → Bool) (x y : TV) (H : TH) (Q : TQ) : Prop := match intTV x, intTV y with
  | some i, some j => Q (.bl (p i j)) H
  | _, _ => False
def isNon : TV → Bool
  | .non => true
  | _ => false
/-- a dict's pairs -/
def valT (kvs : List (Key × TV)) (k : Key) : Option TV := (kvs.find? fun kv => decide (kv.1 = k)).map (·.2)
def putT (kvs : List (Key × TV)) (k : Key) (v : TV) : List (Key × TV) :=
  if (kvs.any fun kv => decide (kv.1 = k)) = true then kvs.map (fun kv => if kv.1 = k then (kv.1, v) else kv) else kvs ++ [(k, v)]
def dropT (kvs : List (Key × TV)) (k : Key) : List (Key × TV) := kvs.filter fun kv => decide (kv.1 ≠ k)
def dctOf (H : TH) : TV → Option (List (Key × TV))
  | .ref a => match H a with
    | some (.dct kvs) => some kvs
    | _ => none
  | _ => none
def keyOf : TV → Option Key
  | .int i => some (.inl i)
  | .str x => some (.inr x)
  | _ => none
/-- comparisons -/
def cOp (op : CmpOp) (x y : TV) (H : TH) (Q : TQ) : Prop := match op with
  | .Eq => Need (eqTV H 60 x y) fun b => Q (.bl b) H
  | .NotEq => Need (eqTV H 60 x y) fun b => Q (.bl (!b)) H
  | .Lt => cInt (fun i j => decide (i < j)) x y H Q
  | .LtE => cInt (fun i j => decide (i ≤ j)) x y H Q
  | .Gt => cInt (fun i j => decide (j < i)) x y H Q
  | .GtE => cInt (fun i j => decide (j ≤ i)) x y H Q
  | .Is => y = .non ∧ Q (.bl (isNon x)) H
  | .IsNot => y = .non ∧ Q (.bl (!isNon x)) H
  | .In => (match x, y with
    | .str a, .str b => Q (.bl (!(Builtin.Str.occurrences b a 0 b.length 1).isEmpty)) H
    | x, y => (match dctOf H y with
      | some kvs => Need (keyOf x) fun k => Q (.bl (valT kvs k).isSome) H
      | none => Need (seqOf H y) fun (_, l) => Need (inTV H x l) fun b => Q (.bl b) H))
  | .NotIn => (match x, y with
    | .str a, .str b => Q (.bl (!(!(Builtin.Str.occurrences b a 0 b.length 1).isEmpty))) H
    | x, y => (match dctOf H y with
      | some kvs => Need (keyOf x) fun k => Q (.bl (!(valT kvs k).isSome)) H
      | none => Need (seqOf H y) fun (_, l) => Need (inTV H x l) fun b => Q (.bl (!b)) H))
def uOp (op : UnaryOp) (x : TV) (H : TH) (Q : TQ) : Prop := match op, x with
  | .USub, .int i => Q (.int (-i)) H
  | .Not, x => Need (truOf H x) fun b => Q (.bl (!b)) H
  | _, _ => False
/-- x[y] -/
def ixOp (x y : TV) (H : TH) (Q : TQ) : Prop := match dctOf H x with
  | some kvs => Need (keyOf y) fun k => Need (valT kvs k) fun v => Q v H
  | none => (match y with
  | .int i => (match x with
    | .str z => z.length ≤ sizeLine ∧ Need (atI z.cps.toList i) fun c => Q (.str ⟨#[c]⟩) H
    | x => Need (seqOf H x) fun (_, l) => Need (atI l i) fun v => Q v H)
  | _ => False)
def cutT (xs : List TV) (lo hi : Option Int) : List TV := (xs.drop (HT.sIx xs.length 0 lo)).take (HT.sIx xs.length xs.length hi - HT.sIx xs.length 0 lo)
/-- x[lo:hi] -/
def slOp (x : TV) (lo hi : Option Int) (H : TH) (Q : TQ) : Prop := match x with
  | .str z => z.length ≤ sizeLine ∧ Q (.str (cutS z lo hi)) H
  | .tup l => Q (.tup (cutT l lo hi)) H
  | x => Need (seqOf H x) fun (t, l) => t = false ∧ ∀ p, H p = none → Q (.ref p) (tupd H p (.lst (cutT l lo hi)))
/-- is a built-in type u what a thing of built-in type t is an instance of -/
def isiB (t u : Str) : Bool := t == u || (t == "bool" && u == "int")
def tyNames : List Str := ["int", "bool", "str", "tuple", "list", "dict"]

def boolsOf : List TV → Option (List Bool)
  | [] => some []
  | .bl b :: r => (boolsOf r).map (b :: ·)
  | _ => none
def intsOf : List TV → Option (List Int)
  | [] => some []
  | .int i :: r => (intsOf r).map (i :: ·)
  | _ => none
/-! ### the static context -/
structure SC where
  N : List Str
  sc : Scope
  fn : Str → Bool
  calm : Bool
  top : Bool
def idx (N : List Str) (x : Str) : Option Nat := N.findIdx? (· == x)
def okName (x : Str) : Bool := x != "__debug__" && x != "__classdict__" && x != "__name__"
def visB (sc : Scope) (x : Str) : Bool := match sc.names.lookup x with
  | some .local => true | some .cell => true | some .free => true | _ => false
def locB (S : SC) (x : Str) : Bool := match S.sc.names.lookup x with
  | some .local => true | some .cell => S.fn x | _ => false
def glB (sc : Scope) (x : Str) : Bool := match sc.names.lookup x with
  | some .globalImplicit => true | _ => false
/-- a def's promise, over trees -/
abbrev TSp := List TV → TH → TX → TQ → Prop
/-! ### expressions -/
def isStar : Expr → Bool
  | .Starred .. => true
  | _ => false
def argsW (f : Expr → TEx) : List Expr → TAx
  | [] => fun _ H _ Q => Q [] H
  | e :: es => fun σ H E Q => f e σ H E fun x H1 => argsW f es σ H1 E fun xs H2 => Q (x :: xs) H2
def noStars (l : List Expr) : Bool := l.all fun e => !isStar e
def tBin (op : TV → TV → TH → TQ → Prop) (ta tb : TEx) : TEx := fun σ H E Q => ta σ H E fun x H1 => tb σ H1 E fun y H2 => op x y H2 Q
def tVarT (i : Nat) : TEx := fun σ H _ Q => ∃ v, σ[i]? = some (some v) ∧ Q v H
def tConT (v : TV) : TEx := fun _ H _ Q => Q v H
def tBad : TEx := fun _ _ _ _ => False
def tAndT2 (ta tb : TEx) : TEx := fun σ H E Q => ta σ H E fun x H1 => Need (truOf H1 x) fun k => if k = true then tb σ H1 E Q else Q x H1
def tOrT2 (ta tb : TEx) : TEx := fun σ H E Q => ta σ H E fun x H1 => Need (truOf H1 x) fun k => if k = true then Q x H1 else tb σ H1 E Q
def tIfE (tc : TTx) (ta tb : TEx) : TEx := fun σ H E Q => tc σ H E fun b H1 => if b = true then ta σ H1 E Q else tb σ H1 E Q
def tChainT (r r' : TV → TV → TH → TQ → Prop) (ta tb tc : TEx) : TEx := fun σ H E Q => ta σ H E fun x H1 => tb σ H1 E fun y H2 => r x y H2 fun z H3 => ∃ k, z = .bl k ∧
  (if k = true then tc σ H3 E fun w H4 => r' y w H4 Q else Q (.bl false) H3)
/-- a value as a test -/
def tTru (ta : TEx) : TTx := fun σ H E Q => ta σ H E fun x H1 => Need (truOf H1 x) fun b => Q b H1
def isSlice : Expr → Bool
  | .Slice .. => true
  | _ => false
def tOptI : Option TV → Option (Option Int)
  | none => some none
  | some (.int i) => some (some i)
  | some .non => some none
  | _ => none
/-- what a for or a comprehension walks: the items; what must stay true while it goes on -/
structure TIt where
  items : List TV
  still : TH → Prop
abbrev TIx := TSt → TH → TX → (TIt → TH → Prop) → Prop
def wipeT (σ : TSt) : List Nat → TSt
  | [] => σ
  | v :: vs => (wipeT σ vs).set v none
/-- storing to a target: what is behind -/
abbrev TGx := TV → TSt → TH → TX → (TSt → TH → Prop) → Prop
def tgName (i : Nat) : TGx := fun v σ H _ Q => Q (σ.set i (some v)) H
def tgTup (ts : List TGx) : TGx := fun v σ H E Q => Need (seqOf H v) fun (_, l) => l.length = ts.length ∧ go ts l σ H E Q
where go : List TGx → List TV → TSt → TH → TX → (TSt → TH → Prop) → Prop
  | [], _, σ, H, _, Q => Q σ H
  | _ :: _, [], _, _, _, _ => False
  | t :: ts, v :: vs, σ, H, E, Q => t v σ H E fun σ1 H1 => go ts vs σ1 H1 E Q
/-- the items made of those walked -/
def lcGo (still : TH → Prop) (g : TGx) (tt : TTx) (te : TEx) (σ0 : TSt) (Q : List TV → TH → Prop) : List TV → List TV → TH → Prop
  | acc, [], H => still H ∧ Q acc H
  | acc, x :: xs, H => still H ∧ g x σ0 H (fun _ _ => False) fun σ1 H1 => tt σ1 H1 (fun _ _ => False) fun b H2 =>
      if b = true then te σ1 H2 (fun _ _ => False) fun y H3 => acc.length < sizeLine ∧ lcGo still g tt te σ0 Q (acc ++ [y]) xs H3
      else lcGo still g tt te σ0 Q acc xs H2
def tLcT (wi : TIx) (g : TGx) (tt : TTx) (te : TEx) (vs : List Nat) : TEx := fun σ H E Q => wi σ H E fun J H1 => lcGo J.still g tt te (wipeT σ vs) (fun l H2 => ∀ p, H2 p = none → Q (.ref p) (tupd H2 p (.lst l))) [] J.items H1
def ownOf (N : List Str) (scope : Scope) : List (Str × Nat) := scope.names.filterMap fun (x, k) => match k with
  | .local => (idx N x).map fun i => (x, i)
  | .cell => (idx N x).map fun i => (x, i)
  | _ => none
def SC.blk (S : SC) (scope : Scope) : SC := ⟨S.N, relS scope S.sc, fun x => scope.names.lookup x == some .cell, S.calm, false⟩

end TL


set_option Elab.async false
set_option linter.all false
set_option maxRecDepth 100000
/-! TL3: operators by values: what is reckoned over trees is what the machine does. -/
namespace TL
open PySem PySem.Spec L2
section
variable {K : PySem.W.Frag} {mg : Str → Option Value} {H : Hp} {T : TH}
/-- what a value's items are, lowered -/
theorem seq_low {x : TV} {v : V} {t : Bool} {l : List TV} (r : RT K H x v) (rh : RH K mg T H) (e : seqOf T x = some (t, l)) :
    ∃ a vs, v = .ref a ∧ RTs K H l vs ∧ (if t = true then SqT K H a vs else SqR K H a vs ∨ H a = some (.lst vs)) := by
  cases r with
  | tup h1 h2 => simp only [seqOf, Option.some.injEq, Prod.mk.injEq] at e; obtain ⟨rfl, rfl⟩ := e; exact ⟨_, _, rfl, h2, h1⟩
  | rol h1 h2 => simp only [seqOf, Option.some.injEq, Prod.mk.injEq] at e; obtain ⟨rfl, rfl⟩ := e; exact ⟨_, _, rfl, h2, .inl h1⟩
  | ref a =>
    simp only [seqOf] at e
    split at e
    · rename_i l' hl
      simp only [Option.some.injEq, Prod.mk.injEq] at e
      obtain ⟨rfl, rfl⟩ := e
      obtain ⟨vs, h1, h2⟩ := rh a _ hl
      exact ⟨a, vs, rfl, h2, .inr h1⟩
    · cases e
  | non => cases e
  | bl => cases e
  | int => cases e
  | str => cases e
theorem seq_lowL {x : TV} {v : V} {l : List TV} (r : RT K H x v) (rh : RH K mg T H) (e : seqOf T x = some (false, l)) :
    ∃ a vs, v = .ref a ∧ RTs K H l vs ∧ SqL K H a vs ∧ (SqR K H a vs ∨ H a = some (.lst vs)) := by
  obtain ⟨a, vs, h1, h2, h3⟩ := seq_low r rh e
  rw [if_neg Bool.false_ne_true] at h3
  exact ⟨a, vs, h1, h2, h3.elim (fun h => h.l) fun h => .of h, h3⟩
theorem seq_lowT {x : TV} {v : V} {l : List TV} (r : RT K H x v) (rh : RH K mg T H) (e : seqOf T x = some (true, l)) :
    ∃ a vs, v = .ref a ∧ RTs K H l vs ∧ SqT K H a vs := by
  obtain ⟨a, vs, h1, h2, h3⟩ := seq_low r rh e
  rw [if_pos rfl] at h3
  exact ⟨a, vs, h1, h2, h3⟩
/-- either: by length alone -/
theorem seq_lowE {x : TV} {v : V} {t : Bool} {l : List TV} (r : RT K H x v) (rh : RH K mg T H) (e : seqOf T x = some (t, l)) :
    ∃ a vs, v = .ref a ∧ RTs K H l vs ∧ (SqL K H a vs ∨ SqT K H a vs) := by
  cases t with
  | true => obtain ⟨a, vs, h1, h2, h3⟩ := seq_lowT r rh e; exact ⟨a, vs, h1, h2, .inr h3⟩
  | false => obtain ⟨a, vs, h1, h2, h3, _⟩ := seq_lowL r rh e; exact ⟨a, vs, h1, h2, .inl h3⟩
theorem RTs.emp {l : List TV} {vs : List V} (r : RTs K H l vs) : (!vs.isEmpty) = (!l.isEmpty) := by cases r <;> rfl
theorem RKs.emp {κ : Type} {l : List (κ × TV)} {vs : List (κ × V)} (r : RKs K H l vs) : (!vs.isEmpty) = (!l.isEmpty) := by cases r <;> rfl
theorem tru_low {x : TV} {v : V} {b : Bool} (r : RT K H x v) (rh : RH K mg T H) (e : truOf T x = some b) : TruV K v H b := by
  cases r with
  | non => simp only [truOf, Option.some.injEq] at e; exact e.symm
  | bl k => simp only [truOf, Option.some.injEq] at e; exact e.symm
  | int k => simp only [truOf, Option.some.injEq] at e; exact e.symm
  | str k =>
    simp only [truOf] at e
    split at e
    · rename_i h
      simp only [Option.some.injEq] at e
      exact ⟨h, e.symm⟩
    · cases e
  | tup h1 h2 => simp only [truOf, Option.some.injEq] at e; subst e; exact .inr (.inl ⟨_, h1, h2.emp.symm⟩)
  | rol h1 h2 => simp only [truOf, Option.some.injEq] at e; subst e; exact .inl ⟨_, h1.l, h2.emp.symm⟩
  | ref a =>
    simp only [truOf] at e
    split at e
    · rename_i l hl
      simp only [Option.some.injEq] at e; subst e
      obtain ⟨vs, h1, h2⟩ := rh a _ hl
      exact .inl ⟨vs, .of h1, h2.emp.symm⟩
    · rename_i l hl
      simp only [Option.some.injEq] at e; subst e
      obtain ⟨vs, h1, h2⟩ := rh a _ hl
      exact .inr (.inr ⟨vs, h1, h2.emp.symm⟩)
    · cases e
end

/-- an operation over trees as one of the layer's -/
def LOp (K : PySem.W.Frag) (mg : Str → Option Value) (t : TV → TV → TH → TQ → Prop) : R2 := fun x' y' H' Q' => ∃ H x y Q, RT K H' x x' ∧ RT K H' y y' ∧ RH K mg H H' ∧ t x y H Q ∧ KQ K mg H H' Q Q'
section
variable {X : Cx} {pins : List (Addr × Obj)} {σ : L2.St} {H : Hp} {s : Shared}
theorem isL_of (I : Inv X pins σ H s) {a : Addr} {xs : List V} (h : SqR X.K H a xs ∨ H a = some (.lst xs)) : xs.length ≤ sizeLine ∧ ∃ (its : List Value) (n : Nat), Vals xs its ∧ xs.length = its.length ∧ s.heap.get? a = some { cls := .type "list", data := .seq its.toArray n } := by
  rcases h with (⟨o, h⟩ | ⟨its, n, e, z, r⟩) | h
  · obtain ⟨_, z, its, n, r, e⟩ := I.hok a _ h
    exact ⟨z, its, n, r, r.length, e⟩
  · have q := r.length
    refine ⟨by rw [q]; simpa using z, its.toList, n, r, q, ?_⟩
    have := I.kIn a _ e
    simpa using this
  · exact I.lstM h
theorem cat_any {x y : V} {v u : Value} {Q : VK} (I : Inv X pins σ H s) (rx : RelV x v) (ry : RelV y u) {a b : Addr} {xs ys : List V} (ex : x = .ref a) (ey : y = .ref b) (ha : SqR X.K H a xs ∨ H a = some (.lst xs)) (hb : SqR X.K H b ys ∨ H b = some (.lst ys))
    (hz : xs.length + ys.length ≤ sizeLine) (q : ∀ p, H p = none → Q (.ref p) (upd H p (.lst (xs ++ ys)))) : wpAny (model X.prog X.w) X.A (binaryOp .Add v u) (EP X pins σ Q) X.xe s := by
  subst ex ey
  cases rx
  cases ry
  obtain ⟨z1, i1, n1, r1, l1, e1⟩ := isL_of I ha
  obtain ⟨z2, i2, n2, r2, l2, e2⟩ := isL_of I hb
  refine PySem.P.add_list e1 e2 ?_ (by simp only [List.size_toArray]; omega)
  have ea : i1.toArray ++ i2.toArray = (i1 ++ i2).toArray := by simp
  rw [ea]
  exact ⟨.ref _, _, I.lnew (t' := s.toks) (r1.append r2) (by simp only [List.length_append]; exact hz), rfl, q _ I.fresh⟩
end
section
variable {X : Cx}
theorem op_bAdd : OpR X (binaryOp .Add) (LOp X.K X.mg bAdd) := by
  intro pins s σ H x' y' v u Q' I rx ry h
  obtain ⟨T, x, y, Q, tx, ty, rh, h, kq⟩ := h
  have seqs : (Need (seqOf T x) fun (t, l) => Need (seqOf T y) fun (u, m) => t = false ∧ u = false ∧ l.length + m.length ≤ sizeLine ∧ ∀ p, T p = none → Q (.ref p) (tupd T p (.lst (l ++ m)))) →
      wpAny (model X.prog X.w) X.A (binaryOp .Add v u) (EP X pins σ Q') X.xe s := by
    rintro ⟨⟨t, l⟩, e1, ⟨t2, m⟩, e2, h1, h2, hz, q⟩
    subst h1 h2
    obtain ⟨a, xs, ea, r1, _, s1⟩ := seq_lowL tx rh e1
    obtain ⟨b, ys, eb, r2, _, s2⟩ := seq_lowL ty rh e2
    refine cat_any I rx ry ea eb s1 s2 (by rw [← r1.length, ← r2.length]; exact hz) fun p hp => ?_
    refine kq _ _ _ _ (q p (rh.free hp)) (.ref p) (rh.add hp ⟨_, upd_same, (r1.append r2).keep (.new hp)⟩) (.new hp)
  cases x <;> cases y <;> first
    | (simp only [bAdd] at h; exact seqs h)
    | skip
  · simp only [bAdd] at h
    cases tx; cases ty
    exact op_add pins s σ H _ _ v u Q' I rx ry ⟨_, _, rfl, rfl, kq _ _ _ _ h (.int _) rh (.refl _)⟩
  · simp only [bAdd] at h
    cases tx; cases ty
    exact op_add_str pins s σ H _ _ v u Q' I rx ry ⟨_, _, rfl, rfl, h.1, kq _ _ _ _ h.2 (.str _) rh (.refl _)⟩
  · rename_i l m
    simp only [bAdd] at h
    obtain ⟨hz, q⟩ := h
    cases tx with
    | @tup a vs _ h1 r1 =>
    cases ty with
    | @tup b ws _ h2 r2 =>
    refine op_catA pins s σ H _ _ v u Q' I rx ry ⟨a, b, vs, ws, rfl, rfl, h1, h2, by rw [← r1.length, ← r2.length]; exact hz, fun e => ?_, fun hx hy => ?_, fun hx hy p hp => ?_⟩
    · subst e
      cases r1
      exact kq _ _ _ _ q (.tup h2 r2) rh (.refl _)
    · subst hy
      cases r2
      rw [List.append_nil] at q
      exact kq _ _ _ _ q (.tup h1 r1) rh (.refl _)
    · exact kq _ _ _ _ q (.tup (.of upd_same) ((r1.append r2).keep (.new hp))) (rh.new hp) (.new hp)
theorem op_bSub : OpR X (binaryOp .Sub) (LOp X.K X.mg bSub) := by
  intro pins s σ H x' y' v u Q' I rx ry h
  obtain ⟨T, x, y, Q, tx, ty, rh, h, kq⟩ := h
  cases x <;> cases y <;> simp only [bSub] at h
  cases tx; cases ty
  exact op_sub pins s σ H _ _ v u Q' I rx ry ⟨_, _, rfl, rfl, kq _ _ _ _ h (.int _) rh (.refl _)⟩
theorem op_bMod : OpR X (binaryOp .Mod) (LOp X.K X.mg bMod) := by
  intro pins s σ H x' y' v u Q' I rx ry h
  obtain ⟨T, x, y, Q, tx, ty, rh, h, kq⟩ := h
  cases x <;> cases y <;> simp only [bMod] at h
  cases tx; cases ty
  exact op_mod pins s σ H _ _ v u Q' I rx ry ⟨_, _, rfl, rfl, h.1, kq _ _ _ _ h.2 (.int _) rh (.refl _)⟩
theorem op_bDiv : OpR X (binaryOp .FloorDiv) (LOp X.K X.mg bDiv) := by
  intro pins s σ H x' y' v u Q' I rx ry h
  obtain ⟨T, x, y, Q, tx, ty, rh, h, kq⟩ := h
  cases x <;> cases y <;> simp only [bDiv] at h
  cases tx; cases ty
  exact op_fdivW pins s σ H _ _ v u Q' I rx ry ⟨_, _, rfl, rfl, h.1, kq _ _ _ _ h.2 (.int _) rh (.refl _)⟩
theorem op_bPow : OpR X (binaryOp .Pow) (LOp X.K X.mg bPow) := by
  intro pins s σ H x' y' v u Q' I rx ry h
  obtain ⟨T, x, y, Q, tx, ty, rh, h, kq⟩ := h
  cases x <;> cases y <;> simp only [bPow] at h
  cases tx; cases ty
  exact op_pow pins s σ H _ _ v u Q' I rx ry ⟨_, _, rfl, rfl, h.1, kq _ _ _ _ h.2 (.int _) rh (.refl _)⟩
theorem RTs.reps {K : PySem.W.Frag} {H : Hp} {l : List TV} {vs : List V} (r : RTs K H l vs) : ∀ n : Nat, RTs K H (List.replicate n l).flatten (List.replicate n vs).flatten
  | 0 => .nil
  | n + 1 => by
    simp only [List.replicate_succ, List.flatten_cons]
    exact r.append (RTs.reps r n)
theorem op_bMul : OpR X (binaryOp .Mult) (LOp X.K X.mg bMul) := by
  intro pins s σ H x' y' v u Q' I rx ry h
  obtain ⟨T, x, y, Q, tx, ty, rh, h, kq⟩ := h
  cases x <;> cases y <;> simp only [bMul] at h
  · cases tx; cases ty
    exact op_mulW pins s σ H _ _ v u Q' I rx ry ⟨_, _, rfl, rfl, h.1, kq _ _ _ _ h.2 (.int _) rh (.refl _)⟩
  · cases tx; cases ty
    obtain ⟨t, rfl⟩ := rx
    obtain ⟨t', rfl⟩ := ry
    exact PySem.SB.mul h.1 fun t' k => ⟨.str _, H, I.tok _, ⟨_, rfl⟩, kq _ _ _ _ h.2 (.str _) rh (.refl _)⟩
  · rename_i a k
    obtain ⟨l, e, k1, k2, hz, q⟩ := h
    cases tx; cases ty
    obtain ⟨vs, h1, r1⟩ := rh _ _ e
    exact op_rep pins s σ H _ _ v u Q' I rx ry ⟨a, k, vs, rfl, rfl, h1, k1, k2, by rw [← r1.length]; exact hz, fun p hp =>
      kq _ _ _ _ (q p (rh.free hp)) (.ref p) (rh.add hp ⟨_, upd_same, (r1.reps _).keep (.new hp)⟩) (.new hp)⟩
theorem op_b (op : Operator) : OpR X (binaryOp op) (LOp X.K X.mg (bOp op)) := by
  cases op <;> first
    | exact op_bAdd
    | exact op_bSub
    | exact op_bMul
    | exact op_bMod
    | exact op_bDiv
    | exact op_bPow
    | (intro pins s σ H x' y' v u Q' I rx ry h; obtain ⟨T, x, y, Q, tx, ty, rh, h, kq⟩ := h; exact False.elim h)
end
end TL


set_option Elab.async false
set_option linter.all false
set_option maxRecDepth 100000
/-! TL4a: ==, in, over trees. -/
namespace TL
open PySem PySem.Spec L2
/-- what a value of a kind is -/
def HK (s : Shared) : Nat → Value → Prop
  | 0, u => u = .none
  | 1, u => ∃ b, u = .bool b
  | 2, u => ∃ i t, u = .int i t
  | 3, u => ∃ x t, u = .str x t
  | 4, u => ∃ a its, u = .ref a ∧ s.heap.IsTuple a its
  | 5, u => ∃ a its, u = .ref a ∧ s.heap.IsList a its
  | _, _ => False
theorem cross_0_1 {s : Shared} {A : Around} {v u : Value} (hu : A.units < cLine) (h : HK s 0 v) (g : HK s 1 u) : SeqAt.RcAt A s v u false ∧ SeqAt.EqAt A s v u false ∧ SeqAt.RcNeAt A s v u true := by
  obtain rfl := h
  obtain ⟨_, rfl⟩ := g
  exact ⟨(SeqAt.RcAt.none_bool _), (SeqAt.EqAt.none_bool _), (SeqAt.RcNeAt.none_bool _)⟩
theorem cross_0_2 {s : Shared} {A : Around} {v u : Value} (hu : A.units < cLine) (h : HK s 0 v) (g : HK s 2 u) : SeqAt.RcAt A s v u false ∧ SeqAt.EqAt A s v u false ∧ SeqAt.RcNeAt A s v u true := by
  obtain rfl := h
  obtain ⟨_, _, rfl⟩ := g
  exact ⟨(SeqAt.RcAt.none_int _ _), (SeqAt.EqAt.none_int _ _), (SeqAt.RcNeAt.none_int _ _)⟩
theorem cross_0_3 {s : Shared} {A : Around} {v u : Value} (hu : A.units < cLine) (h : HK s 0 v) (g : HK s 3 u) : SeqAt.RcAt A s v u false ∧ SeqAt.EqAt A s v u false ∧ SeqAt.RcNeAt A s v u true := by
  obtain rfl := h
  obtain ⟨_, _, rfl⟩ := g
  exact ⟨(SeqAt.RcAt.none_str _ _), (SeqAt.EqAt.none_str _ _), (SeqAt.RcNeAt.none_str _ _)⟩
theorem cross_0_4 {s : Shared} {A : Around} {v u : Value} (hu : A.units < cLine) (h : HK s 0 v) (g : HK s 4 u) : SeqAt.RcAt A s v u false ∧ SeqAt.EqAt A s v u false ∧ SeqAt.RcNeAt A s v u true := by
  obtain rfl := h
  obtain ⟨_, _, rfl, h2⟩ := g
  exact ⟨(SeqAt.RcAt.none_tuple h2 hu), (SeqAt.EqAt.none_tuple h2 hu), (SeqAt.RcNeAt.none_tuple h2 hu)⟩
theorem cross_0_5 {s : Shared} {A : Around} {v u : Value} (hu : A.units < cLine) (h : HK s 0 v) (g : HK s 5 u) : SeqAt.RcAt A s v u false ∧ SeqAt.EqAt A s v u false ∧ SeqAt.RcNeAt A s v u true := by
  obtain rfl := h
  obtain ⟨_, _, rfl, h2⟩ := g
  exact ⟨(SeqAt.RcAt.none_list h2 hu), (SeqAt.EqAt.none_list h2 hu), (SeqAt.RcNeAt.none_list h2 hu)⟩
theorem cross_1_0 {s : Shared} {A : Around} {v u : Value} (hu : A.units < cLine) (h : HK s 1 v) (g : HK s 0 u) : SeqAt.RcAt A s v u false ∧ SeqAt.EqAt A s v u false ∧ SeqAt.RcNeAt A s v u true := by
  obtain ⟨_, rfl⟩ := h
  obtain rfl := g
  exact ⟨(SeqAt.RcAt.bool_none _), (SeqAt.EqAt.bool_none _), (SeqAt.RcNeAt.bool_none _)⟩
theorem cross_1_3 {s : Shared} {A : Around} {v u : Value} (hu : A.units < cLine) (h : HK s 1 v) (g : HK s 3 u) : SeqAt.RcAt A s v u false ∧ SeqAt.EqAt A s v u false ∧ SeqAt.RcNeAt A s v u true := by
  obtain ⟨_, rfl⟩ := h
  obtain ⟨_, _, rfl⟩ := g
  exact ⟨(SeqAt.RcAt.bool_str _ _ _), (SeqAt.EqAt.bool_str _ _ _), (SeqAt.RcNeAt.bool_str _ _ _)⟩
theorem cross_1_4 {s : Shared} {A : Around} {v u : Value} (hu : A.units < cLine) (h : HK s 1 v) (g : HK s 4 u) : SeqAt.RcAt A s v u false ∧ SeqAt.EqAt A s v u false ∧ SeqAt.RcNeAt A s v u true := by
  obtain ⟨_, rfl⟩ := h
  obtain ⟨_, _, rfl, h2⟩ := g
  exact ⟨(SeqAt.RcAt.bool_tuple _ h2 hu), (SeqAt.EqAt.bool_tuple _ h2 hu), (SeqAt.RcNeAt.bool_tuple _ h2 hu)⟩
theorem cross_1_5 {s : Shared} {A : Around} {v u : Value} (hu : A.units < cLine) (h : HK s 1 v) (g : HK s 5 u) : SeqAt.RcAt A s v u false ∧ SeqAt.EqAt A s v u false ∧ SeqAt.RcNeAt A s v u true := by
  obtain ⟨_, rfl⟩ := h
  obtain ⟨_, _, rfl, h2⟩ := g
  exact ⟨(SeqAt.RcAt.bool_list _ h2 hu), (SeqAt.EqAt.bool_list _ h2 hu), (SeqAt.RcNeAt.bool_list _ h2 hu)⟩
theorem cross_2_0 {s : Shared} {A : Around} {v u : Value} (hu : A.units < cLine) (h : HK s 2 v) (g : HK s 0 u) : SeqAt.RcAt A s v u false ∧ SeqAt.EqAt A s v u false ∧ SeqAt.RcNeAt A s v u true := by
  obtain ⟨_, _, rfl⟩ := h
  obtain rfl := g
  exact ⟨(SeqAt.RcAt.int_none _ _), (SeqAt.EqAt.int_none _ _), (SeqAt.RcNeAt.int_none _ _)⟩
theorem cross_2_3 {s : Shared} {A : Around} {v u : Value} (hu : A.units < cLine) (h : HK s 2 v) (g : HK s 3 u) : SeqAt.RcAt A s v u false ∧ SeqAt.EqAt A s v u false ∧ SeqAt.RcNeAt A s v u true := by
  obtain ⟨_, _, rfl⟩ := h
  obtain ⟨_, _, rfl⟩ := g
  exact ⟨(SeqAt.RcAt.int_str _ _ _ _), (SeqAt.EqAt.int_str _ _ _ _), (SeqAt.RcNeAt.int_str _ _ _ _)⟩
theorem cross_2_4 {s : Shared} {A : Around} {v u : Value} (hu : A.units < cLine) (h : HK s 2 v) (g : HK s 4 u) : SeqAt.RcAt A s v u false ∧ SeqAt.EqAt A s v u false ∧ SeqAt.RcNeAt A s v u true := by
  obtain ⟨_, _, rfl⟩ := h
  obtain ⟨_, _, rfl, h2⟩ := g
  exact ⟨(SeqAt.RcAt.int_tuple _ _ h2 hu), (SeqAt.EqAt.int_tuple _ _ h2 hu), (SeqAt.RcNeAt.int_tuple _ _ h2 hu)⟩
theorem cross_2_5 {s : Shared} {A : Around} {v u : Value} (hu : A.units < cLine) (h : HK s 2 v) (g : HK s 5 u) : SeqAt.RcAt A s v u false ∧ SeqAt.EqAt A s v u false ∧ SeqAt.RcNeAt A s v u true := by
  obtain ⟨_, _, rfl⟩ := h
  obtain ⟨_, _, rfl, h2⟩ := g
  exact ⟨(SeqAt.RcAt.int_list _ _ h2 hu), (SeqAt.EqAt.int_list _ _ h2 hu), (SeqAt.RcNeAt.int_list _ _ h2 hu)⟩
theorem cross_3_0 {s : Shared} {A : Around} {v u : Value} (hu : A.units < cLine) (h : HK s 3 v) (g : HK s 0 u) : SeqAt.RcAt A s v u false ∧ SeqAt.EqAt A s v u false ∧ SeqAt.RcNeAt A s v u true := by
  obtain ⟨_, _, rfl⟩ := h
  obtain rfl := g
  exact ⟨(SeqAt.RcAt.str_none _ _), (SeqAt.EqAt.str_none _ _), (SeqAt.RcNeAt.str_none _ _)⟩
theorem cross_3_1 {s : Shared} {A : Around} {v u : Value} (hu : A.units < cLine) (h : HK s 3 v) (g : HK s 1 u) : SeqAt.RcAt A s v u false ∧ SeqAt.EqAt A s v u false ∧ SeqAt.RcNeAt A s v u true := by
  obtain ⟨_, _, rfl⟩ := h
  obtain ⟨_, rfl⟩ := g
  exact ⟨(SeqAt.RcAt.str_bool _ _ _), (SeqAt.EqAt.str_bool _ _ _), (SeqAt.RcNeAt.str_bool _ _ _)⟩
theorem cross_3_2 {s : Shared} {A : Around} {v u : Value} (hu : A.units < cLine) (h : HK s 3 v) (g : HK s 2 u) : SeqAt.RcAt A s v u false ∧ SeqAt.EqAt A s v u false ∧ SeqAt.RcNeAt A s v u true := by
  obtain ⟨_, _, rfl⟩ := h
  obtain ⟨_, _, rfl⟩ := g
  exact ⟨(SeqAt.RcAt.str_int _ _ _ _), (SeqAt.EqAt.str_int _ _ _ _), (SeqAt.RcNeAt.str_int _ _ _ _)⟩
theorem cross_3_4 {s : Shared} {A : Around} {v u : Value} (hu : A.units < cLine) (h : HK s 3 v) (g : HK s 4 u) : SeqAt.RcAt A s v u false ∧ SeqAt.EqAt A s v u false ∧ SeqAt.RcNeAt A s v u true := by
  obtain ⟨_, _, rfl⟩ := h
  obtain ⟨_, _, rfl, h2⟩ := g
  exact ⟨(SeqAt.RcAt.str_tuple _ _ h2 hu), (SeqAt.EqAt.str_tuple _ _ h2 hu), (SeqAt.RcNeAt.str_tuple _ _ h2 hu)⟩
theorem cross_3_5 {s : Shared} {A : Around} {v u : Value} (hu : A.units < cLine) (h : HK s 3 v) (g : HK s 5 u) : SeqAt.RcAt A s v u false ∧ SeqAt.EqAt A s v u false ∧ SeqAt.RcNeAt A s v u true := by
  obtain ⟨_, _, rfl⟩ := h
  obtain ⟨_, _, rfl, h2⟩ := g
  exact ⟨(SeqAt.RcAt.str_list _ _ h2 hu), (SeqAt.EqAt.str_list _ _ h2 hu), (SeqAt.RcNeAt.str_list _ _ h2 hu)⟩
theorem cross_4_0 {s : Shared} {A : Around} {v u : Value} (hu : A.units < cLine) (h : HK s 4 v) (g : HK s 0 u) : SeqAt.RcAt A s v u false ∧ SeqAt.EqAt A s v u false ∧ SeqAt.RcNeAt A s v u true := by
  obtain ⟨_, _, rfl, h1⟩ := h
  obtain rfl := g
  exact ⟨(SeqAt.RcAt.tuple_none h1 hu), (SeqAt.EqAt.tuple_none h1 hu), (SeqAt.RcNeAt.tuple_none h1 hu)⟩
theorem cross_4_1 {s : Shared} {A : Around} {v u : Value} (hu : A.units < cLine) (h : HK s 4 v) (g : HK s 1 u) : SeqAt.RcAt A s v u false ∧ SeqAt.EqAt A s v u false ∧ SeqAt.RcNeAt A s v u true := by
  obtain ⟨_, _, rfl, h1⟩ := h
  obtain ⟨_, rfl⟩ := g
  exact ⟨(SeqAt.RcAt.tuple_bool _ h1 hu), (SeqAt.EqAt.tuple_bool _ h1 hu), (SeqAt.RcNeAt.tuple_bool _ h1 hu)⟩
theorem cross_4_2 {s : Shared} {A : Around} {v u : Value} (hu : A.units < cLine) (h : HK s 4 v) (g : HK s 2 u) : SeqAt.RcAt A s v u false ∧ SeqAt.EqAt A s v u false ∧ SeqAt.RcNeAt A s v u true := by
  obtain ⟨_, _, rfl, h1⟩ := h
  obtain ⟨_, _, rfl⟩ := g
  exact ⟨(SeqAt.RcAt.tuple_int _ _ h1 hu), (SeqAt.EqAt.tuple_int _ _ h1 hu), (SeqAt.RcNeAt.tuple_int _ _ h1 hu)⟩
theorem cross_4_3 {s : Shared} {A : Around} {v u : Value} (hu : A.units < cLine) (h : HK s 4 v) (g : HK s 3 u) : SeqAt.RcAt A s v u false ∧ SeqAt.EqAt A s v u false ∧ SeqAt.RcNeAt A s v u true := by
  obtain ⟨_, _, rfl, h1⟩ := h
  obtain ⟨_, _, rfl⟩ := g
  exact ⟨(SeqAt.RcAt.tuple_str _ _ h1 hu), (SeqAt.EqAt.tuple_str _ _ h1 hu), (SeqAt.RcNeAt.tuple_str _ _ h1 hu)⟩
theorem cross_4_5 {s : Shared} {A : Around} {v u : Value} (hu : A.units < cLine) (h : HK s 4 v) (g : HK s 5 u) : SeqAt.RcAt A s v u false ∧ SeqAt.EqAt A s v u false ∧ SeqAt.RcNeAt A s v u true := by
  obtain ⟨_, _, rfl, h1⟩ := h
  obtain ⟨_, _, rfl, h2⟩ := g
  exact ⟨(SeqAt.RcAt.tuple_list h1 h2 hu), (SeqAt.EqAt.tuple_list h1 h2 hu), (SeqAt.RcNeAt.tuple_list h1 h2 hu)⟩
theorem cross_5_0 {s : Shared} {A : Around} {v u : Value} (hu : A.units < cLine) (h : HK s 5 v) (g : HK s 0 u) : SeqAt.RcAt A s v u false ∧ SeqAt.EqAt A s v u false ∧ SeqAt.RcNeAt A s v u true := by
  obtain ⟨_, _, rfl, h1⟩ := h
  obtain rfl := g
  exact ⟨(SeqAt.RcAt.list_none h1 hu), (SeqAt.EqAt.list_none h1 hu), (SeqAt.RcNeAt.list_none h1 hu)⟩
theorem cross_5_1 {s : Shared} {A : Around} {v u : Value} (hu : A.units < cLine) (h : HK s 5 v) (g : HK s 1 u) : SeqAt.RcAt A s v u false ∧ SeqAt.EqAt A s v u false ∧ SeqAt.RcNeAt A s v u true := by
  obtain ⟨_, _, rfl, h1⟩ := h
  obtain ⟨_, rfl⟩ := g
  exact ⟨(SeqAt.RcAt.list_bool _ h1 hu), (SeqAt.EqAt.list_bool _ h1 hu), (SeqAt.RcNeAt.list_bool _ h1 hu)⟩
theorem cross_5_2 {s : Shared} {A : Around} {v u : Value} (hu : A.units < cLine) (h : HK s 5 v) (g : HK s 2 u) : SeqAt.RcAt A s v u false ∧ SeqAt.EqAt A s v u false ∧ SeqAt.RcNeAt A s v u true := by
  obtain ⟨_, _, rfl, h1⟩ := h
  obtain ⟨_, _, rfl⟩ := g
  exact ⟨(SeqAt.RcAt.list_int _ _ h1 hu), (SeqAt.EqAt.list_int _ _ h1 hu), (SeqAt.RcNeAt.list_int _ _ h1 hu)⟩
theorem cross_5_3 {s : Shared} {A : Around} {v u : Value} (hu : A.units < cLine) (h : HK s 5 v) (g : HK s 3 u) : SeqAt.RcAt A s v u false ∧ SeqAt.EqAt A s v u false ∧ SeqAt.RcNeAt A s v u true := by
  obtain ⟨_, _, rfl, h1⟩ := h
  obtain ⟨_, _, rfl⟩ := g
  exact ⟨(SeqAt.RcAt.list_str _ _ h1 hu), (SeqAt.EqAt.list_str _ _ h1 hu), (SeqAt.RcNeAt.list_str _ _ h1 hu)⟩
theorem cross_5_4 {s : Shared} {A : Around} {v u : Value} (hu : A.units < cLine) (h : HK s 5 v) (g : HK s 4 u) : SeqAt.RcAt A s v u false ∧ SeqAt.EqAt A s v u false ∧ SeqAt.RcNeAt A s v u true := by
  obtain ⟨_, _, rfl, h1⟩ := h
  obtain ⟨_, _, rfl, h2⟩ := g
  exact ⟨(SeqAt.RcAt.list_tuple h1 h2 hu), (SeqAt.EqAt.list_tuple h1 h2 hu), (SeqAt.RcNeAt.list_tuple h1 h2 hu)⟩
theorem cross {s : Shared} {A : Around} {v u : Value} (hu : A.units < cLine) (k j : Nat) (h : HK s k v) (g : HK s j u) (hk : (k == j || (k == 1 && j == 2) || (k == 2 && j == 1)) = false) : SeqAt.RcAt A s v u false ∧ SeqAt.EqAt A s v u false ∧ SeqAt.RcNeAt A s v u true :=
  match k, j, h, g, hk with
  | 0, 1, h, g, _ => cross_0_1 hu h g
  | 0, 2, h, g, _ => cross_0_2 hu h g
  | 0, 3, h, g, _ => cross_0_3 hu h g
  | 0, 4, h, g, _ => cross_0_4 hu h g
  | 0, 5, h, g, _ => cross_0_5 hu h g
  | 1, 0, h, g, _ => cross_1_0 hu h g
  | 1, 3, h, g, _ => cross_1_3 hu h g
  | 1, 4, h, g, _ => cross_1_4 hu h g
  | 1, 5, h, g, _ => cross_1_5 hu h g
  | 2, 0, h, g, _ => cross_2_0 hu h g
  | 2, 3, h, g, _ => cross_2_3 hu h g
  | 2, 4, h, g, _ => cross_2_4 hu h g
  | 2, 5, h, g, _ => cross_2_5 hu h g
  | 3, 0, h, g, _ => cross_3_0 hu h g
  | 3, 1, h, g, _ => cross_3_1 hu h g
  | 3, 2, h, g, _ => cross_3_2 hu h g
  | 3, 4, h, g, _ => cross_3_4 hu h g
  | 3, 5, h, g, _ => cross_3_5 hu h g
  | 4, 0, h, g, _ => cross_4_0 hu h g
  | 4, 1, h, g, _ => cross_4_1 hu h g
  | 4, 2, h, g, _ => cross_4_2 hu h g
  | 4, 3, h, g, _ => cross_4_3 hu h g
  | 4, 5, h, g, _ => cross_4_5 hu h g
  | 5, 0, h, g, _ => cross_5_0 hu h g
  | 5, 1, h, g, _ => cross_5_1 hu h g
  | 5, 2, h, g, _ => cross_5_2 hu h g
  | 5, 3, h, g, _ => cross_5_3 hu h g
  | 5, 4, h, g, _ => cross_5_4 hu h g
  | 0, 0, _, _, hk => absurd hk (by decide)
  | 1, 1, _, _, hk => absurd hk (by decide)
  | 1, 2, _, _, hk => absurd hk (by decide)
  | 2, 1, _, _, hk => absurd hk (by decide)
  | 2, 2, _, _, hk => absurd hk (by decide)
  | 3, 3, _, _, hk => absurd hk (by decide)
  | 4, 4, _, _, hk => absurd hk (by decide)
  | 5, 5, _, _, hk => absurd hk (by decide)
  | k + 6, _, h, _, _ => h.elim
  | _, j + 6, _, g, _ => g.elim
end TL


set_option Elab.async false
set_option linter.all false
set_option maxRecDepth 100000
/-! TL4b: ==, in, over trees. -/
namespace TL
open PySem PySem.Spec L2
theorem allKnown_spec : ∀ {os : List (Option Bool)} {c : Bool}, allKnown os = some c → ∃ bs : List Bool, os = bs.map some ∧ c = bs.all id
  | [], c, h => ⟨[], rfl, by simp only [allKnown, Option.some.injEq] at h; rw [← h]; rfl⟩
  | none :: _, c, h => by simp [allKnown] at h
  | some b :: r, c, h => by
    simp only [allKnown] at h
    cases q : allKnown r with
    | none => rw [q] at h; cases h
    | some d =>
      rw [q] at h
      simp only [Option.map_some, Option.some.injEq] at h
      obtain ⟨bs, e1, e2⟩ := allKnown_spec q
      exact ⟨b :: bs, by rw [e1]; rfl, by rw [← h, e2]; rfl⟩
theorem allKnown_map : ∀ bs : List Bool, allKnown (bs.map some) = some (bs.all id)
  | [] => rfl
  | b :: r => by simp [allKnown, allKnown_map r]
theorem range_all_getD : ∀ (bs : List Bool), (List.range bs.length).all (fun j => bs.getD j false) = bs.all id
  | [] => rfl
  | b :: r => by
    rw [List.length_cons, List.range_succ_eq_map, List.all_cons, List.all_map, List.all_cons]
    have : ((fun j => (b :: r).getD j false) ∘ Nat.succ) = fun j => r.getD j false := by funext j; simp
    rw [this, range_all_getD r]
    simp
/-- the items' answers, one by one -/
theorem known_items {f : TV → TV → Option Bool} {l m : List TV} {c : Bool} (h : allKnown (List.zipWith f l m) = some c) :
    ∃ bs : List Bool, bs.length = min l.length m.length ∧ c = (List.range (min l.length m.length)).all (fun j => bs.getD j false) ∧ ∀ j x y, l[j]? = some x → m[j]? = some y → f x y = some (bs.getD j false) := by
  obtain ⟨bs, e1, e2⟩ := allKnown_spec h
  have hl : bs.length = min l.length m.length := by
    have := congrArg List.length e1
    simpa using this.symm
  refine ⟨bs, hl, by rw [e2, ← hl, range_all_getD], fun j x y hx hy => ?_⟩
  have q := congrArg (fun z => z[j]?) e1
  simp only [List.getElem?_zipWith, hx, hy, List.getElem?_map] at q
  cases r : bs[j]? with
  | none => rw [r] at q; cases q
  | some b =>
    rw [r] at q
    have q' : f x y = some b := by simpa using q
    rw [q', List.getD_eq_getElem?_getD, r]
    rfl
section
variable {X : Cx} {pins : List (Addr × Obj)} {σ : L2.St} {H : Hp} {s : Shared} {T : TH}
theorem hk_of (I : Inv X pins σ H s) (rh : RH X.K X.mg T H) {x : TV} {x' : V} {v : Value} {k : Nat} (r : RT X.K H x x') (rv : RelV x' v) (e : kindN T x = some k) : HK s k v := by
  cases r with
  | non => cases rv; simp only [kindN, Option.some.injEq] at e; subst e; rfl
  | bl b => cases rv; simp only [kindN, Option.some.injEq] at e; subst e; exact ⟨_, rfl⟩
  | int i => obtain ⟨t, rfl⟩ := rv; simp only [kindN, Option.some.injEq] at e; subst e; exact ⟨_, _, rfl⟩
  | str i => obtain ⟨t, rfl⟩ := rv; simp only [kindN, Option.some.injEq] at e; subst e; exact ⟨_, _, rfl⟩
  | tup h1 h2 =>
    cases rv; simp only [kindN, Option.some.injEq] at e; subst e
    obtain ⟨its, _, p, _⟩ := I.tuple h1
    exact ⟨_, its.toArray, rfl, p⟩
  | rol h1 h2 =>
    cases rv; simp only [kindN, Option.some.injEq] at e; subst e
    obtain ⟨its, _, p, _⟩ := I.list h1.l
    exact ⟨_, its.toArray, rfl, p.isList⟩
  | ref a =>
    cases rv; simp only [kindN] at e
    split at e
    · rename_i l hl
      simp only [Option.some.injEq] at e; subst e
      obtain ⟨vs, h1, h2⟩ := rh a _ hl
      obtain ⟨its, _, p, _⟩ := I.list (.of h1)
      exact ⟨_, its.toArray, rfl, p.isList⟩
    · cases e
theorem seq_inj (I : Inv X pins σ H s) (rh : RH X.K X.mg T H) {x y : TV} {v : V} {t u : Bool} {l m : List TV} (r : RT X.K H x v) (q : RT X.K H y v) (e : seqOf T x = some (t, l)) (f : seqOf T y = some (u, m)) :
    t = u ∧ ∃ vs, RTs X.K H l vs ∧ RTs X.K H m vs := by
  cases t with
  | true =>
    obtain ⟨a, vs, rfl, h1, h2⟩ := seq_lowT r rh e
    cases u with
    | true =>
      obtain ⟨b, ws, e2, g1, g2⟩ := seq_lowT q rh f
      cases e2
      rw [I.tuple_inj g2 h2] at g1
      exact ⟨rfl, vs, h1, g1⟩
    | false =>
      obtain ⟨b, ws, e2, g1, g2, _⟩ := seq_lowL q rh f
      cases e2
      obtain ⟨its, _, p, _⟩ := I.tuple h2
      obtain ⟨its2, _, p2, _⟩ := I.list g2
      exact absurd rfl (SeqAt.ne_of_list_tuple (s := s) p2.isList p)
  | false =>
    obtain ⟨a, vs, rfl, h1, h2, _⟩ := seq_lowL r rh e
    cases u with
    | true =>
      obtain ⟨b, ws, e2, g1, g2⟩ := seq_lowT q rh f
      cases e2
      obtain ⟨its, _, p, _⟩ := I.tuple g2
      obtain ⟨its2, _, p2, _⟩ := I.list h2
      exact absurd rfl (SeqAt.ne_of_list_tuple (s := s) p2.isList p)
    | false =>
      obtain ⟨b, ws, e2, g1, g2, _⟩ := seq_lowL q rh f
      cases e2
      rw [I.list_inj g2 h2] at g1
      exact ⟨rfl, vs, h1, g1⟩
theorem eqFlat_same {x y : TV} {v : V} {b : Bool} (r : RT X.K H x v) (q : RT X.K H y v) (e : eqFlat x y = some b) : b = true := by
  cases r <;> cases q <;> simp_all [eqFlat]
theorem HK.inj {u : Value} : ∀ (k j : Nat), HK s k u → HK s j u → k = j := by
  intro k j h g
  match k, j, h, g with
  | 0, 0, _, _ => rfl
  | 1, 1, _, _ => rfl
  | 2, 2, _, _ => rfl
  | 3, 3, _, _ => rfl
  | 4, 4, _, _ => rfl
  | 5, 5, _, _ => rfl
  | 4, 5, ⟨a, i1, e, p⟩, ⟨b, i2, f, q⟩ => subst e; cases f; exact absurd rfl (SeqAt.ne_of_list_tuple (s := s) q p)
  | 5, 4, ⟨a, i1, e, p⟩, ⟨b, i2, f, q⟩ => subst e; cases f; exact absurd rfl (SeqAt.ne_of_list_tuple (s := s) p q)
  | 0, 1, e, ⟨_, f⟩ | 0, 2, e, ⟨_, _, f⟩ | 0, 3, e, ⟨_, _, f⟩ | 0, 4, e, ⟨_, _, f, _⟩ | 0, 5, e, ⟨_, _, f, _⟩ => have e' : u = .none := e; rw [e'] at f; cases f
  | 1, 0, ⟨_, f⟩, e | 2, 0, ⟨_, _, f⟩, e | 3, 0, ⟨_, _, f⟩, e | 4, 0, ⟨_, _, f, _⟩, e | 5, 0, ⟨_, _, f, _⟩, e => have e' : u = .none := e; rw [e'] at f; cases f
  | 1, 2, ⟨_, e⟩, ⟨_, _, f⟩ | 1, 3, ⟨_, e⟩, ⟨_, _, f⟩ | 1, 4, ⟨_, e⟩, ⟨_, _, f, _⟩ | 1, 5, ⟨_, e⟩, ⟨_, _, f, _⟩ => rw [e] at f; cases f
  | 2, 1, ⟨_, _, f⟩, ⟨_, e⟩ | 3, 1, ⟨_, _, f⟩, ⟨_, e⟩ | 4, 1, ⟨_, _, f, _⟩, ⟨_, e⟩ | 5, 1, ⟨_, _, f, _⟩, ⟨_, e⟩ => rw [e] at f; cases f
  | 2, 3, ⟨_, _, e⟩, ⟨_, _, f⟩ | 2, 4, ⟨_, _, e⟩, ⟨_, _, f, _⟩ | 2, 5, ⟨_, _, e⟩, ⟨_, _, f, _⟩ => rw [e] at f; cases f
  | 3, 2, ⟨_, _, e⟩, ⟨_, _, f⟩ | 3, 4, ⟨_, _, e⟩, ⟨_, _, f, _⟩ | 3, 5, ⟨_, _, e⟩, ⟨_, _, f, _⟩ => rw [e] at f; cases f
  | 4, 2, ⟨_, _, e, _⟩, ⟨_, _, f⟩ | 4, 3, ⟨_, _, e, _⟩, ⟨_, _, f⟩ | 5, 2, ⟨_, _, e, _⟩, ⟨_, _, f⟩ | 5, 3, ⟨_, _, e, _⟩, ⟨_, _, f⟩ => rw [e] at f; cases f
  | k + 6, _, h, _ => exact h.elim
  | _, j + 6, _, g => exact g.elim
/-- one and the same value is equal to itself -/
theorem eqTV_same (I : Inv X pins σ H s) (rh : RH X.K X.mg T H) : ∀ (n : Nat) {x y : TV} {v : V} {b : Bool}, RT X.K H x v → RT X.K H y v → eqTV T n x y = some b → b = true
  | 0, x, y, v, b, r, q, e => eqFlat_same r q e
  | n + 1, x, y, v, b, r, q, e => by
    have ex : ∃ u, RelV v u := ⟨_, (show RelV v (match v with | .non => .none | .bl b => .bool b | .int i => .int i 0 | .str x => .str x 0 | .byt b => .bytes b 0 | .flt b => .float b 0 | .ref a => .ref a | .ty n => .type n) by cases v <;> first | rfl | exact ⟨_, rfl⟩)⟩
    obtain ⟨u, ru⟩ := ex
    simp only [eqTV] at e
    split at e
    · rename_i c hc
      simp only [Option.some.injEq] at e
      rw [← e]
      exact eqFlat_same r q hc
    · split at e
      · rename_i t l u' m h1 h2
        obtain ⟨rfl, vs, q1, q2⟩ := seq_inj I rh r q h1 h2
        have hlen : l.length = m.length := q1.length.trans q2.length.symm
        have all : ∀ c, allKnown (List.zipWith (eqTV T n) l m) = some c → c = true := fun c hc => by
          obtain ⟨bs, hb, ec, hi⟩ := known_items hc
          rw [ec, List.all_eq_true]
          intro j hj
          have hj' : j < min l.length m.length := List.mem_range.mp hj
          have j1 : j < l.length := by omega
          have j2 : j < m.length := by omega
          obtain ⟨v1, g1, g2⟩ := q1.get (List.getElem?_eq_getElem j1)
          obtain ⟨v2, g3, g4⟩ := q2.get (List.getElem?_eq_getElem j2)
          rw [g1] at g3; cases g3
          exact eqTV_same I rh n g2 g4 (hi j _ _ (List.getElem?_eq_getElem j1) (List.getElem?_eq_getElem j2))
        unfold eqSeq at e
        simp only [bne_self_eq_false, Bool.false_eq_true, if_false, hlen, beq_self_eq_true, Bool.and_true] at e
        split at e
        · cases hz : allKnown (List.zipWith (eqTV T n) l m) with
          | none => rw [hz] at e; cases e
          | some c =>
            rw [hz] at e
            simp only [Option.map_some, Option.some.injEq] at e
            rw [← e]
            exact all c hz
        · exact all b e
      · unfold eqKind at e
        split at e
        · rename_i k j hk hj
          have := HK.inj k j (hk_of I rh r ru hk) (hk_of I rh q ru hj)
          subst this
          simp at e
        · cases e
theorem eqFlat_run {A : Around} {x y : TV} {x' y' : V} {v u : Value} {b : Bool} (tx : RT X.K H x x') (ty : RT X.K H y y') (rx : RelV x' v) (ry : RelV y' u) (e : eqFlat x y = some b) : SeqAt.RcAt A s v u b ∧ SeqAt.EqAt A s v u b ∧ SeqAt.RcNeAt A s v u (!b) := by
  cases tx <;> cases ty <;> simp only [eqFlat, Option.some.injEq, reduceCtorEq] at e <;> subst e
  · cases rx; cases ry; exact ⟨SeqAt.RcAt.none_none, SeqAt.EqAt.same _, SeqAt.RcNeAt.none_none⟩
  · cases rx; cases ry; exact ⟨SeqAt.RcAt.bool_bool _ _, SeqAt.EqAt.bool_bool _ _, SeqAt.RcNeAt.bool_bool _ _⟩
  · cases rx; obtain ⟨t, rfl⟩ := ry; exact ⟨SeqAt.RcAt.bool_int _ _ _, SeqAt.EqAt.bool_int _ _ _, SeqAt.RcNeAt.bool_int _ _ _⟩
  · cases ry; obtain ⟨t, rfl⟩ := rx; exact ⟨SeqAt.RcAt.int_bool _ _ _, SeqAt.EqAt.int_bool _ _ _, SeqAt.RcNeAt.int_bool _ _ _⟩
  · obtain ⟨t, rfl⟩ := rx; obtain ⟨t', rfl⟩ := ry; exact ⟨SeqAt.RcAt.int_int _ _ _ _, SeqAt.EqAt.int_int _ _ _ _, SeqAt.RcNeAt.int_int _ _ _ _⟩
  · obtain ⟨t, rfl⟩ := rx; obtain ⟨t', rfl⟩ := ry; exact ⟨SeqAt.RcAt.str_str _ _ _ _, SeqAt.EqAt.str_str _ _ _ _, SeqAt.RcNeAt.str_str _ _ _ _⟩
theorem eqTV_run (I : Inv X pins σ H s) (rh : RH X.K X.mg T H) : ∀ (n : Nat) {A : Around} {x y : TV} {x' y' : V} {v u : Value} {b : Bool}, A.units + n < cLine → RT X.K H x x' → RT X.K H y y' → RelV x' v → RelV y' u → eqTV T n x y = some b →
    SeqAt.RcAt A s v u b ∧ SeqAt.EqAt A s v u b ∧ SeqAt.RcNeAt A s v u (!b)
  | 0, A, x, y, x', y', v, u, b, hu, tx, ty, rx, ry, e => eqFlat_run tx ty rx ry e
  | n + 1, A, x, y, x', y', v, u, b, hu, tx, ty, rx, ry, e => by
    have e0 := e
    simp only [eqTV] at e
    split at e
    · rename_i c hc
      simp only [Option.some.injEq] at e
      rw [← e]
      exact eqFlat_run tx ty rx ry hc
    · split at e
      · rename_i t l t' m h1 h2
        have hu1 : A.units < cLine := by omega
        have hin : A.in1.units + n < cLine := by show A.units + 1 + n < cLine; omega
        -- the items, known
        have items : ∀ {its its2 : List Value} {vs ws : List V}, RTs X.K H l vs → RTs X.K H m ws → Vals vs its → Vals ws its2 → ∀ c, allKnown (List.zipWith (eqTV T n) l m) = some c →
            ∃ f : Nat → Bool, c = (List.range (min l.length m.length)).all f ∧ ∀ j (g1 : j < its.toArray.size) (g2 : j < its2.toArray.size), SeqAt.EqAt A.in1 s its.toArray[j] its2.toArray[j] (f j) := fun {its its2 vs ws} q1 q2 r1 r2 c hc => by
          obtain ⟨bs, hb, ec, hi⟩ := known_items hc
          refine ⟨fun j => bs.getD j false, ec, fun j g1 g2 => ?_⟩
          have n1 : l.length = its.length := q1.length.trans r1.length
          have n2 : m.length = its2.length := q2.length.trans r2.length
          have j1 : j < l.length := by simp at g1; omega
          have j2 : j < m.length := by simp at g2; omega
          obtain ⟨v1, p1, p2⟩ := q1.get (List.getElem?_eq_getElem j1)
          obtain ⟨v2, p3, p4⟩ := q2.get (List.getElem?_eq_getElem j2)
          obtain ⟨u1, p5, p6⟩ := r1.get p1
          obtain ⟨u2, p7, p8⟩ := r2.get p3
          have w1 : its.toArray[j] = u1 := by
            have := List.getElem?_eq_some_iff.mp p5
            obtain ⟨h, e⟩ := this
            simpa using e
          have w2 : its2.toArray[j] = u2 := by
            have := List.getElem?_eq_some_iff.mp p7
            obtain ⟨h, e⟩ := this
            simpa using e
          rw [w1, w2]
          exact (eqTV_run I rh n hin p2 p4 p6 p8 (hi j _ _ (List.getElem?_eq_getElem j1) (List.getElem?_eq_getElem j2))).2.1
        -- from == of the objects to == with a look at whether they are one
        have both : ∀ {a c : Addr}, v = .ref a → u = .ref c → x' = .ref a → y' = .ref c → SeqAt.RcAt A s v u b → SeqAt.RcNeAt A s v u (!b) → SeqAt.RcAt A s v u b ∧ SeqAt.EqAt A s v u b ∧ SeqAt.RcNeAt A s v u (!b) := fun {a c} e1 e2 e3 e4 hr hn => by
          refine ⟨hr, ?_, hn⟩
          by_cases hac : a = c
          · have hx : x' = y' := by rw [e3, e4, hac]
            have hb := eqTV_same I rh (n + 1) tx (hx ▸ ty) e0
            subst e1 e2 hac hb
            exact SeqAt.EqAt.same _
          · subst e1 e2
            exact .of_refs hac hr
        unfold eqSeq at e
        cases t with
        | true =>
          obtain ⟨a, vs, ea, q1, s1⟩ := seq_lowT tx rh h1
          subst ea
          cases rx
          obtain ⟨its, r1, p1, _⟩ := I.tuple s1
          cases t' with
          | true =>
            obtain ⟨c, ws, ec, q2, s2⟩ := seq_lowT ty rh h2
            subst ec
            cases ry
            obtain ⟨its2, r2, p2, _⟩ := I.tuple s2
            simp only [bne_self_eq_false, Bool.false_eq_true, if_false, if_true] at e
            cases hz : allKnown (List.zipWith (eqTV T n) l m) with
            | none => rw [hz] at e; cases e
            | some d =>
              rw [hz] at e
              simp only [Option.map_some, Option.some.injEq] at e
              obtain ⟨f, ef, hf⟩ := items q1 q2 r1 r2 d hz
              have a1 := SeqAt.RcAt.tuples (A := A) (s := s) (e := f) p1 p2 hu1 hf
              have a2 := SeqAt.RcNeAt.tuples (A := A) (s := s) (e := f) p1 p2 hu1 hf
              have n1 : l.length = its.length := q1.length.trans r1.length
              have n2 : m.length = its2.length := q2.length.trans r2.length
              simp only [List.size_toArray, ← n1, ← n2] at a1 a2
              refine both rfl rfl rfl rfl ?_ ?_
              · rw [← e, ef]
                exact a1
              · rw [← e, ef]
                exact a2
          | false =>
            obtain ⟨c, ws, ec, q2, s2, _⟩ := seq_lowL ty rh h2
            subst ec
            cases ry
            obtain ⟨its2, r2, p2, _⟩ := I.list s2
            simp only [bne_iff_ne, ne_eq, Bool.true_eq_false, not_false_eq_true, if_true, Option.some.injEq] at e
            subst e
            exact ⟨SeqAt.RcAt.tuple_list p1 p2.isList hu1, SeqAt.EqAt.tuple_list p1 p2.isList hu1, SeqAt.RcNeAt.tuple_list p1 p2.isList hu1⟩
        | false =>
          obtain ⟨a, vs, ea, q1, s1, _⟩ := seq_lowL tx rh h1
          subst ea
          cases rx
          obtain ⟨its, r1, p1, _⟩ := I.list s1
          cases t' with
          | true =>
            obtain ⟨c, ws, ec, q2, s2⟩ := seq_lowT ty rh h2
            subst ec
            cases ry
            obtain ⟨its2, r2, p2, _⟩ := I.tuple s2
            simp only [bne_iff_ne, ne_eq, Bool.false_eq_true, not_false_eq_true, if_true, Option.some.injEq] at e
            subst e
            exact ⟨SeqAt.RcAt.list_tuple p1.isList p2 hu1, SeqAt.EqAt.list_tuple p1.isList p2 hu1, SeqAt.RcNeAt.list_tuple p1.isList p2 hu1⟩
          | false =>
            obtain ⟨c, ws, ec, q2, s2, _⟩ := seq_lowL ty rh h2
            subst ec
            cases ry
            obtain ⟨its2, r2, p2, _⟩ := I.list s2
            have n1 : l.length = its.length := q1.length.trans r1.length
            have n2 : m.length = its2.length := q2.length.trans r2.length
            simp only [bne_self_eq_false, Bool.false_eq_true, if_false] at e
            by_cases hlen : l.length = m.length
            · rw [if_neg (by simp [hlen])] at e
              obtain ⟨f, ef, hf⟩ := items q1 q2 r1 r2 b e
              have a1 := SeqAt.RcAt.lists (A := A) (s := s) (e := f) p1.isList p2.isList (by simp only [List.size_toArray]; omega) hu1 hf
              have a2 := SeqAt.RcNeAt.lists (A := A) (s := s) (e := f) p1.isList p2.isList (by simp only [List.size_toArray]; omega) hu1 hf
              simp only [List.size_toArray, ← n1] at a1 a2
              rw [hlen, Nat.min_self, ← hlen] at ef
              rw [← ef] at a1 a2
              exact both rfl rfl rfl rfl a1 a2
            · rw [if_pos (by simp [hlen])] at e
              simp only [Option.some.injEq] at e
              subst e
              exact both rfl rfl rfl rfl (SeqAt.RcAt.lists_lengths p1.isList p2.isList (by simp only [List.size_toArray, bne_iff_ne, ne_eq]; omega) hu1) (SeqAt.RcNeAt.lists_lengths p1.isList p2.isList (by simp only [List.size_toArray, bne_iff_ne, ne_eq]; omega) hu1)
      · unfold eqKind at e
        split at e
        · rename_i k j hk hj
          split at e
          · cases e
          · rename_i hne
            simp only [Option.some.injEq] at e
            subst e
            exact cross (by omega) k j (hk_of I rh tx rx hk) (hk_of I rh ty ry hj) (by simpa using hne)
        · cases e
end
end TL


set_option Elab.async false
set_option linter.all false
set_option maxRecDepth 100000
/-! TL4c: comparisons as rules; subscripts, slices, truth, len, isinstance, other built-ins. -/
namespace TL
open PySem PySem.Spec L2
section
variable {X : Cx} {pins : List (Addr × Obj)} {σ : L2.St} {H : Hp} {s : Shared} {T : TH}
theorem eqFlat_congr {x y z : TV} {v : V} {b c : Bool} (r : RT X.K H x v) (q : RT X.K H y v) (e : eqFlat x z = some b) (f : eqFlat y z = some c) : b = c := by
  cases r <;> cases q <;> first
    | (rw [e] at f; exact Option.some.inj f)
    | (cases z <;> simp_all [eqFlat])
theorem kind_rel {v : V} {u : Value} {x : TV} (I : Inv X pins σ H s) (rh : RH X.K X.mg T H) (r : RT X.K H x v) (ru : RelV v u) {k : Nat} (e : kindN T x = some k) : HK s k u := hk_of I rh r ru e
theorem some_rel (v : V) : ∃ u, RelV v u := ⟨_, (show RelV v (match v with | .non => .none | .bl b => .bool b | .int i => .int i 0 | .str x => .str x 0 | .byt b => .bytes b 0 | .flt b => .float b 0 | .ref a => .ref a | .ty n => .type n) by cases v <;> first | rfl | exact ⟨_, rfl⟩)⟩
/-- two trees of one value compare alike -/
theorem eqTV_congr (I : Inv X pins σ H s) (rh : RH X.K X.mg T H) : ∀ (n : Nat) {x y z : TV} {v : V} {b c : Bool}, RT X.K H x v → RT X.K H y v → eqTV T n x z = some b → eqTV T n y z = some c → b = c
  | 0, x, y, z, v, b, c, r, q, e, f => eqFlat_congr r q e f
  | n + 1, x, y, z, v, b, c, r, q, e, f => by
    obtain ⟨u, ru⟩ := some_rel v
    have flatS : ∀ {w : TV} {d : Bool}, eqFlat w z = some d → eqTV T (n + 1) w z = some d := fun {w d} h => by simp only [eqTV, h]
    cases hx : eqFlat x z with
    | some d =>
      cases hy : eqFlat y z with
      | some d' =>
        rw [flatS hx] at e; rw [flatS hy] at f
        rw [← Option.some.inj e, ← Option.some.inj f]
        exact eqFlat_congr r q hx hy
      | none => exfalso; cases r <;> cases q <;> first | (rw [hx] at hy; cases hy) | (cases z <;> simp_all [eqFlat])
    | none =>
      cases hy : eqFlat y z with
      | some d' => exfalso; cases r <;> cases q <;> first | (rw [hx] at hy; cases hy) | (cases z <;> simp_all [eqFlat])
      | none =>
        simp only [eqTV, hx, hy] at e f
        split at e
        · rename_i t l u' k h1 h2
          split at f
          · rename_i t' m u2 k2 h3 h4
            rw [h2] at h4; cases h4
            obtain ⟨rfl, vs, q1, q2⟩ := seq_inj I rh r q h1 h3
            have hlen : l.length = m.length := q1.length.trans q2.length.symm
            have items : ∀ b c, allKnown (List.zipWith (eqTV T n) l k) = some b → allKnown (List.zipWith (eqTV T n) m k) = some c → b = c := fun b c hb hc => by
              obtain ⟨bs, l1, e1, g1⟩ := known_items hb
              obtain ⟨cs, l2, e2, g2⟩ := known_items hc
              have : bs = cs := by
                apply List.ext_getElem?
                intro j
                by_cases hj : j < min l.length k.length
                · have j1 : j < l.length := by omega
                  have j2 : j < k.length := by omega
                  have j3 : j < m.length := by omega
                  obtain ⟨v1, p1, p2⟩ := q1.get (List.getElem?_eq_getElem j1)
                  obtain ⟨v2, p3, p4⟩ := q2.get (List.getElem?_eq_getElem j3)
                  rw [p1] at p3; cases p3
                  have a1 := g1 j _ _ (List.getElem?_eq_getElem j1) (List.getElem?_eq_getElem j2)
                  have a2 := g2 j _ _ (List.getElem?_eq_getElem j3) (List.getElem?_eq_getElem j2)
                  have a3 := eqTV_congr I rh n p2 p4 a1 a2
                  have b1 : j < bs.length := by omega
                  have b2 : j < cs.length := by omega
                  simp only [List.getD_eq_getElem?_getD, List.getElem?_eq_getElem b1, List.getElem?_eq_getElem b2, Option.getD_some] at a3
                  rw [List.getElem?_eq_getElem b1, List.getElem?_eq_getElem b2, a3]
                · rw [List.getElem?_eq_none (by omega), List.getElem?_eq_none (by omega)]
              rw [e1, e2, this, hlen]
            unfold eqSeq at e f
            rw [← hlen] at f
            split at e
            · rename_i h5
              rw [if_pos h5] at f
              rw [← Option.some.inj e, ← Option.some.inj f]
            · rename_i h5
              rw [if_neg h5] at f
              split at e
              · rename_i h6
                rw [if_pos h6] at f
                cases z1 : allKnown (List.zipWith (eqTV T n) l k) with
                | none => rw [z1] at e; cases e
                | some d1 =>
                  cases z2 : allKnown (List.zipWith (eqTV T n) m k) with
                  | none => rw [z2] at f; cases f
                  | some d2 =>
                    rw [z1] at e; rw [z2] at f
                    rw [← Option.some.inj e, ← Option.some.inj f, items d1 d2 z1 z2]
              · rename_i h6
                rw [if_neg h6] at f
                split at e
                · rename_i h7
                  rw [if_pos h7] at f
                  rw [← Option.some.inj e, ← Option.some.inj f]
                · rename_i h7
                  rw [if_neg h7] at f
                  exact items b c e f
          · rename_i hno
            -- y has no items
            cases q with
            | tup a1 a2 => exact absurd h2 (hno _ _ _ _ rfl)
            | rol a1 a2 => exact absurd h2 (hno _ _ _ _ rfl)
            | ref a =>
              unfold eqKind at f
              split at f
              · rename_i j1 j2 hk hj
                simp only [kindN] at hk
                split at hk
                · rename_i l' hl
                  have : seqOf T (.ref a) = some (false, l') := by simp only [seqOf, hl]
                  exact absurd h2 (hno _ _ _ _ this)
                · cases hk
              · cases f
            | non => cases r; cases h1
            | bl => cases r; cases h1
            | int => cases r; cases h1
            | str => cases r; cases h1
        · rename_i hno
          unfold eqKind at e
          split at e
          · rename_i k j hk hj
            split at f
            · rename_i t' m u2 k2 h3 h4
              -- y has items, x has a kind but no items
              cases r with
              | tup a1 a2 => exact absurd h4 (hno _ _ _ _ rfl)
              | rol a1 a2 => exact absurd h4 (hno _ _ _ _ rfl)
              | ref a =>
                simp only [kindN] at hk
                split at hk
                · rename_i l' hl
                  have : seqOf T (.ref a) = some (false, l') := by simp only [seqOf, hl]
                  exact absurd h4 (hno _ _ _ _ this)
                · cases hk
              | non => cases q; cases h3
              | bl => cases q; cases h3
              | int => cases q; cases h3
              | str => cases q; cases h3
            · unfold eqKind at f
              split at f
              · rename_i k' j' hk' hj'
                rw [hj] at hj'; cases hj'
                have := HK.inj k k' (hk_of I rh r ru hk) (hk_of I rh q ru hk')
                subst this
                split at e
                · cases e
                · rename_i h8
                  rw [if_neg h8] at f
                  rw [← Option.some.inj e, ← Option.some.inj f]
              · cases f
          · cases e
theorem in_run (I : Inv X pins σ H s) (rh : RH X.K X.mg T H) {A : Around} (hu : A.units + 61 < cLine) {x : TV} {x' : V} {u : Value} (tx : RT X.K H x x') (rx : RelV x' u) : ∀ {l : List TV} {vs : List V} {its : List Value} {b : Bool}, RTs X.K H l vs → Vals vs its → inTV T x l = some b →
    ∃ e : Value → Bool, its.any e = b ∧ (∀ y, y ∈ its → SeqAt.EqAt A.in1 s y u (e y)) ∧ ∀ y, y ∈ its → ∃ (z : TV) (z' : V), RT X.K H z z' ∧ RelV z' y ∧ eqTV T 60 z x = some (e y)
  | [], _, _, b, .nil, .nil, h => ⟨fun _ => false, by simp only [inTV, Option.some.injEq] at h; rw [← h]; rfl, fun y hy => absurd hy (by simp), fun y hy => absurd hy (by simp)⟩
  | z :: l, _, _, b, .cons (v := w) tz ts, .cons (b := wv) rz rs, h => by
    simp only [inTV] at h
    split at h
    · rename_i b1 b2 h1 h2
      obtain ⟨e, e1, e2, e3⟩ := in_run I rh hu tx rx ts rs h2
      simp only [Option.some.injEq] at h
      subst h
      refine ⟨fun y => if y = wv then b1 else e y, ?_, ?_, ?_⟩
      · rw [List.any_cons, if_pos rfl]
        congr 1
        rw [← e1]
        have : ∀ its' : List Value, (∀ y ∈ its', ∃ (z : TV) (z' : V), RT X.K H z z' ∧ RelV z' y ∧ eqTV T 60 z x = some (e y)) → (its'.any fun y => if y = wv then b1 else e y) = its'.any e := by
          intro its' h'
          induction its' with
          | nil => rfl
          | cons y r ih =>
            rw [List.any_cons, List.any_cons, ih fun y hy => h' y (List.mem_cons_of_mem _ hy)]
            congr 1
            by_cases hy : y = wv
            · rw [if_pos hy]
              obtain ⟨z2, z2', q1, q2, q3⟩ := h' y List.mem_cons_self
              subst hy
              have := q2.inj rz
              subst this
              exact eqTV_congr I rh 60 tz q1 h1 q3
            · rw [if_neg hy]
        exact this _ e3
      · intro y hy
        by_cases hyw : y = wv
        · show SeqAt.EqAt _ _ _ _ (if y = wv then b1 else e y)
          rw [if_pos hyw, hyw]
          exact (eqTV_run I rh 60 (show A.units + 1 + 60 < cLine by omega) tz tx rz rx h1).2.1
        · show SeqAt.EqAt _ _ _ _ (if y = wv then b1 else e y)
          rw [if_neg hyw]
          rcases List.mem_cons.mp hy with q | q
          · exact absurd q hyw
          · exact e2 y q
      · intro y hy
        by_cases hyw : y = wv
        · simp only [if_pos hyw]
          exact ⟨z, w, tz, hyw ▸ rz, h1⟩
        · simp only [if_neg hyw]
          rcases List.mem_cons.mp hy with q | q
          · exact absurd q hyw
          · exact e3 y q
    · cases h
end
section
variable {X : Cx}
theorem op_cEq (hu : X.A.units + 64 < cLine) : OpR X (compareOp .Eq) (LOp X.K X.mg (cOp .Eq)) := by
  intro pins s σ H x' y' v u Q' I rx ry h
  obtain ⟨T, x, y, Q, tx, ty, rh, ⟨b, e, q⟩, kq⟩ := h
  exact (eqTV_run I rh 60 (A := X.A) (by omega) tx ty rx ry e).1 _ _ _ _ ⟨.bl _, H, I, rfl, kq _ _ _ _ q (.bl _) rh (.refl _)⟩
theorem op_cNe (hu : X.A.units + 64 < cLine) : OpR X (compareOp .NotEq) (LOp X.K X.mg (cOp .NotEq)) := by
  intro pins s σ H x' y' v u Q' I rx ry h
  obtain ⟨T, x, y, Q, tx, ty, rh, ⟨b, e, q⟩, kq⟩ := h
  exact (eqTV_run I rh 60 (A := X.A) (by omega) tx ty rx ry e).2.2 _ _ _ _ ⟨.bl _, H, I, rfl, kq _ _ _ _ q (.bl _) rh (.refl _)⟩
end
end TL


set_option Elab.async false
set_option linter.all false
set_option maxRecDepth 100000
/-! TL4x: order between ints and truths. -/
namespace TL
open PySem PySem.Spec L2 PySem.SeqAt
section
variable {prog : Program} {w : World} {A : Around} {E : Value → Shared → Prop} {s : Shared} {Q : Value → Shared → Prop}
abbrev bi (b : Bool) : Int := if b then 1 else 0
theorem gives_lt_bi (a : Bool) (b : Int) (u : Tok) : Gives (Builtin.«int.__lt__» ⟨[.bool a, .int b u], []⟩) (.val (Value.bool ((fun x1 x2 => decide (x1 < x2)) (if a = true then (1 : Int) else 0) b))) :=
  .of_wp fun M A E s Q h => by obtain ⟨hp, g, d, tk, os⟩ := s; wp_walk; exact ⟨_, rfl, h⟩
theorem gives_le_bi (a : Bool) (b : Int) (u : Tok) : Gives (Builtin.«int.__le__» ⟨[.bool a, .int b u], []⟩) (.val (Value.bool ((fun x1 x2 => decide (x1 ≤ x2)) (if a = true then (1 : Int) else 0) b))) :=
  .of_wp fun M A E s Q h => by obtain ⟨hp, g, d, tk, os⟩ := s; wp_walk; exact ⟨_, rfl, h⟩
theorem gives_gt_bi (a : Bool) (b : Int) (u : Tok) : Gives (Builtin.«int.__gt__» ⟨[.bool a, .int b u], []⟩) (.val (Value.bool ((fun x1 x2 => decide (x1 > x2)) (if a = true then (1 : Int) else 0) b))) :=
  .of_wp fun M A E s Q h => by obtain ⟨hp, g, d, tk, os⟩ := s; wp_walk; exact ⟨_, rfl, h⟩
theorem gives_ge_bi (a : Bool) (b : Int) (u : Tok) : Gives (Builtin.«int.__ge__» ⟨[.bool a, .int b u], []⟩) (.val (Value.bool ((fun x1 x2 => decide (x1 ≥ x2)) (if a = true then (1 : Int) else 0) b))) :=
  .of_wp fun M A E s Q h => by obtain ⟨hp, g, d, tk, os⟩ := s; wp_walk; exact ⟨_, rfl, h⟩
theorem lt_bi {a : Bool} {b : Int} {u : Tok} (h : Q (.bool (decide (bi a < b))) s) : wpAny (model prog w) A (compareOp .Lt (.bool a) (.int b u)) Q E s := by
  show wpAny _ _ (richCompare .Lt (.bool a) (.int b u)) Q E s
  exact rc_left_or rfl (typeIs_int s b u) (by decide) F.sub_int_bool F.slot_bool_lt (call_gives F.slot_bool_lt rfl F.entry_int_lt (F.args_int_lt_2 _ _) (gives_lt_bi a b u) ⟨nofun, h⟩) (.inl rfl)
theorem lt_ib {a : Int} {t : Tok} {b : Bool} (h : Q (.bool (decide (a < bi b))) s) : wpAny (model prog w) A (compareOp .Lt (.int a t) (.bool b)) Q E s := by
  show wpAny _ _ (richCompare .Lt (.int a t) (.bool b)) Q E s
  exact rc_sub_first_or (typeIs_int s a t) rfl (by decide) F.sub_bool_int F.slot_bool_gt_refl (call_gives F.slot_bool_gt_refl rfl F.entry_int_gt (F.args_int_gt_2 _ _) (gives_gt_bi b a t) ⟨nofun, h⟩) (.inl rfl)
theorem le_bi {a : Bool} {b : Int} {u : Tok} (h : Q (.bool (decide (bi a ≤ b))) s) : wpAny (model prog w) A (compareOp .LtE (.bool a) (.int b u)) Q E s := by
  show wpAny _ _ (richCompare .LtE (.bool a) (.int b u)) Q E s
  exact rc_left_or rfl (typeIs_int s b u) (by decide) F.sub_int_bool F.slot_bool_le (call_gives F.slot_bool_le rfl F.entry_int_le (F.args_int_le_2 _ _) (gives_le_bi a b u) ⟨nofun, h⟩) (.inl rfl)
theorem le_ib {a : Int} {t : Tok} {b : Bool} (h : Q (.bool (decide (a ≤ bi b))) s) : wpAny (model prog w) A (compareOp .LtE (.int a t) (.bool b)) Q E s := by
  show wpAny _ _ (richCompare .LtE (.int a t) (.bool b)) Q E s
  exact rc_sub_first_or (typeIs_int s a t) rfl (by decide) F.sub_bool_int F.slot_bool_ge_refl (call_gives F.slot_bool_ge_refl rfl F.entry_int_ge (F.args_int_ge_2 _ _) (gives_ge_bi b a t) ⟨nofun, h⟩) (.inl rfl)
theorem gt_bi {a : Bool} {b : Int} {u : Tok} (h : Q (.bool (decide (bi a > b))) s) : wpAny (model prog w) A (compareOp .Gt (.bool a) (.int b u)) Q E s := by
  show wpAny _ _ (richCompare .Gt (.bool a) (.int b u)) Q E s
  exact rc_left_or rfl (typeIs_int s b u) (by decide) F.sub_int_bool F.slot_bool_gt (call_gives F.slot_bool_gt rfl F.entry_int_gt (F.args_int_gt_2 _ _) (gives_gt_bi a b u) ⟨nofun, h⟩) (.inl rfl)
theorem gt_ib {a : Int} {t : Tok} {b : Bool} (h : Q (.bool (decide (a > bi b))) s) : wpAny (model prog w) A (compareOp .Gt (.int a t) (.bool b)) Q E s := by
  show wpAny _ _ (richCompare .Gt (.int a t) (.bool b)) Q E s
  exact rc_sub_first_or (typeIs_int s a t) rfl (by decide) F.sub_bool_int F.slot_bool_lt_refl (call_gives F.slot_bool_lt_refl rfl F.entry_int_lt (F.args_int_lt_2 _ _) (gives_lt_bi b a t) ⟨nofun, h⟩) (.inl rfl)
theorem ge_bi {a : Bool} {b : Int} {u : Tok} (h : Q (.bool (decide (bi a ≥ b))) s) : wpAny (model prog w) A (compareOp .GtE (.bool a) (.int b u)) Q E s := by
  show wpAny _ _ (richCompare .GtE (.bool a) (.int b u)) Q E s
  exact rc_left_or rfl (typeIs_int s b u) (by decide) F.sub_int_bool F.slot_bool_ge (call_gives F.slot_bool_ge rfl F.entry_int_ge (F.args_int_ge_2 _ _) (gives_ge_bi a b u) ⟨nofun, h⟩) (.inl rfl)
theorem ge_ib {a : Int} {t : Tok} {b : Bool} (h : Q (.bool (decide (a ≥ bi b))) s) : wpAny (model prog w) A (compareOp .GtE (.int a t) (.bool b)) Q E s := by
  show wpAny _ _ (richCompare .GtE (.int a t) (.bool b)) Q E s
  exact rc_sub_first_or (typeIs_int s a t) rfl (by decide) F.sub_bool_int F.slot_bool_le_refl (call_gives F.slot_bool_le_refl rfl F.entry_int_le (F.args_int_le_2 _ _) (gives_le_bi b a t) ⟨nofun, h⟩) (.inl rfl)
end
end TL


set_option Elab.async false
set_option linter.all false
set_option maxRecDepth 100000
/-! TL4d: the other comparisons; subscripts, slices, truth, len, isinstance, other built-ins. -/
namespace TL
open PySem PySem.Spec L2
section
variable {X : Cx}
theorem op_cInt {op : CmpOp} {p : Int → Int → Bool} (h0 : OpR X (compareOp op) (rI0 fun i j => .bl (p i j)))
    (h1 : ∀ {A : Around} {E : Value → Shared → Prop} {s : Shared} {Q : Value → Shared → Prop} {a : Bool} {b : Int} {u : Tok}, Q (.bool (p (bi a) b)) s → wpAny (model X.prog X.w) A (compareOp op (.bool a) (.int b u)) Q E s)
    (h2 : ∀ {A : Around} {E : Value → Shared → Prop} {s : Shared} {Q : Value → Shared → Prop} {a : Int} {t : Tok} {b : Bool}, Q (.bool (p a (bi b))) s → wpAny (model X.prog X.w) A (compareOp op (.int a t) (.bool b)) Q E s)
    (h3 : ∀ {A : Around} {E : Value → Shared → Prop} {s : Shared} {Q : Value → Shared → Prop} {a b : Bool}, Q (.bool (p (bi a) (bi b))) s → wpAny (model X.prog X.w) A (compareOp op (.bool a) (.bool b)) Q E s) : OpR X (compareOp op) (LOp X.K X.mg (cInt p)) := by
  intro pins s σ H x' y' v u Q' I rx ry h
  obtain ⟨T, x, y, Q, tx, ty, rh, h, kq⟩ := h
  cases x <;> cases y <;> simp only [cInt, intTV] at h
  all_goals (cases tx; cases ty)
  · cases (show v = Value.bool _ from rx)
    cases (show u = Value.bool _ from ry)
    exact h3 (fin_bl I (kq _ _ _ _ h (.bl _) rh (.refl _)) rfl)
  · cases (show v = Value.bool _ from rx)
    obtain ⟨t, e⟩ := (show ∃ t, u = Value.int _ t from ry)
    subst e
    exact h1 (fin_bl I (kq _ _ _ _ h (.bl _) rh (.refl _)) rfl)
  · cases (show u = Value.bool _ from ry)
    obtain ⟨t, e⟩ := (show ∃ t, v = Value.int _ t from rx)
    subst e
    exact h2 (fin_bl I (kq _ _ _ _ h (.bl _) rh (.refl _)) rfl)
  · exact h0 pins s σ H _ _ v u Q' I rx ry ⟨_, _, rfl, rfl, kq _ _ _ _ h (.bl _) rh (.refl _)⟩
theorem op_cIs : OpR X (compareOp .Is) (LOp X.K X.mg (cOp .Is)) := by
  intro pins s σ H x' y' v u Q' I rx ry h
  obtain ⟨T, x, y, Q, tx, ty, rh, ⟨rfl, q⟩, kq⟩ := h
  cases ty
  refine op_isN pins s σ H _ _ v u Q' I rx ry ⟨rfl, ?_⟩
  have e : (decide (x' = V.non)) = isNon x := by cases tx <;> rfl
  rw [e]
  exact kq _ _ _ _ q (.bl _) rh (.refl _)
theorem op_cIsNot : OpR X (compareOp .IsNot) (LOp X.K X.mg (cOp .IsNot)) := by
  intro pins s σ H x' y' v u Q' I rx ry h
  obtain ⟨T, x, y, Q, tx, ty, rh, ⟨rfl, q⟩, kq⟩ := h
  cases ty
  refine op_notN pins s σ H _ _ v u Q' I rx ry ⟨rfl, ?_⟩
  have e : (!decide (x' = V.non)) = !isNon x := by cases tx <;> rfl
  rw [e]
  exact kq _ _ _ _ q (.bl _) rh (.refl _)
section
variable {K : PySem.W.Frag} {mg : Str → Option Value} {H : Hp} {T : TH}
theorem RKs.val {kvs : List (Key × TV)} {vs : List (Key × V)} (r : RKs K H kvs vs) (k : Key) : (∀ x, valT kvs k = some x → ∃ v, valV vs k = some v ∧ RT K H x v) ∧ (valT kvs k).isSome = (valV vs k).isSome := by
  induction r with
  | nil => exact ⟨fun x h => (by cases h), rfl⟩
  | @cons k' x v xs vs a b ih =>
    by_cases hk : k' = k
    · subst hk
      have e1 : valT ((k', x) :: xs) k' = some x := by simp [valT]
      have e2 : valV ((k', v) :: vs) k' = some v := by simp [valV]
      rw [e1, e2]
      exact ⟨fun y h => (by cases h; exact ⟨v, rfl, a⟩), rfl⟩
    · have e1 : valT ((k', x) :: xs) k = valT xs k := by simp [valT, List.find?_cons, hk]
      have e2 : valV ((k', v) :: vs) k = valV vs k := by simp [valV, List.find?_cons, hk]
      rw [e1, e2]
      exact ih
theorem dct_low {x : TV} {v : V} {kvs : List (Key × TV)} (r : RT K H x v) (rh : RH K mg T H) (e : dctOf T x = some kvs) : ∃ a vs, v = .ref a ∧ x = .ref a ∧ T a = some (.dct kvs) ∧ H a = some (.dK vs) ∧ RKs K H kvs vs := by
  cases r with
  | ref a =>
    simp only [dctOf] at e
    split at e
    · rename_i k hk
      simp only [Option.some.injEq] at e; subst e
      obtain ⟨vs, h1, h2⟩ := rh a _ hk
      exact ⟨a, vs, rfl, rfl, hk, h1, h2⟩
    · cases e
  | _ => cases e
theorem key_low {y : TV} {v : V} {k : Key} (r : RT K H y v) (e : keyOf y = some k) : v = kV k := by
  cases r <;> simp only [keyOf, Option.some.injEq, reduceCtorEq] at e <;> subst e <;> rfl
end
theorem in_any (hu : X.A.units + 64 < cLine) {neg : Bool} {op : CmpOp} (hop : op = if neg then .NotIn else .In) {pins : List (Addr × Obj)} {s : Shared} {σ : L2.St} {H : Hp} {x' y' : V} {v u : Value} {Q' : VK} {T : TH} {x y : TV} {Q : TQ} (I : Inv X pins σ H s) (rx : RelV x' v) (ry : RelV y' u)
    (tx : RT X.K H x x') (ty : RT X.K H y y') (rh : RH X.K X.mg T H) (kq : KQ X.K X.mg T H Q Q')
    (h : match dctOf T y with
      | some kvs => Need (keyOf x) fun k => Q (.bl (if neg then !(valT kvs k).isSome else (valT kvs k).isSome)) T
      | none => Need (seqOf T y) fun (_, l) => Need (inTV T x l) fun b => Q (.bl (if neg then !b else b)) T) :
    wpAny (model X.prog X.w) X.A (compareOp op v u) (EP X pins σ Q') X.xe s := by
  split at h
  · rename_i kvs hk
    obtain ⟨k, ek, q⟩ := h
    obtain ⟨a, vs, rfl, rfl, _, h1, h2⟩ := dct_low ty rh hk
    cases ry
    have ekv := key_low tx ek
    subst ekv
    have g : DGet H a (kV k) (valV vs k) := .k h1
    have es := (h2.val k).2
    cases neg with
    | true => subst hop; exact d_notIn (by omega) I g rx fun s' I' => ⟨.bl _, H, I', rfl, by rw [← es]; exact kq _ _ _ _ q (.bl _) rh (.refl _)⟩
    | false => subst hop; exact d_in (by omega) I g rx fun s' I' => ⟨.bl _, H, I', rfl, by rw [← es]; exact kq _ _ _ _ q (.bl _) rh (.refl _)⟩
  · obtain ⟨⟨t, l⟩, e, b, eb, q⟩ := h
    have fin : EP X pins σ Q' (.bool (if neg then !b else b)) s := ⟨.bl _, H, I, rfl, kq _ _ _ _ q (.bl _) rh (.refl _)⟩
    cases t with
    | true =>
      obtain ⟨a, vs, rfl, r1, s1⟩ := seq_lowT ty rh e
      cases ry
      obtain ⟨its, rv, p, _⟩ := I.tuple s1
      obtain ⟨f, f1, f2, _⟩ := in_run I rh (A := X.A) (by omega) tx rx r1 rv eb
      cases neg with
      | true => subst hop; exact SeqAt.notIn_tupleAt f p (fun y hy => f2 y (by simpa using hy)) (by rw [List.any_toArray, f1]; exact fin)
      | false => subst hop; exact SeqAt.in_tupleAt f p (fun y hy => f2 y (by simpa using hy)) (by rw [List.any_toArray, f1]; exact fin)
    | false =>
      obtain ⟨a, vs, rfl, r1, s1, _⟩ := seq_lowL ty rh e
      cases ry
      obtain ⟨its, rv, p, _⟩ := I.list s1
      obtain ⟨f, f1, f2, _⟩ := in_run I rh (A := X.A) (by omega) tx rx r1 rv eb
      cases neg with
      | true => subst hop; exact SeqAt.notIn_listAt f p.isList (fun y hy => f2 y (by simpa using hy)) (by rw [List.any_toArray, f1]; exact fin)
      | false => subst hop; exact SeqAt.in_listAt f p.isList (fun y hy => f2 y (by simpa using hy)) (by rw [List.any_toArray, f1]; exact fin)
theorem op_cIn (hu : X.A.units + 64 < cLine) : OpR X (compareOp .In) (LOp X.K X.mg (cOp .In)) := by
  intro pins s σ H x' y' v u Q' I rx ry h
  obtain ⟨T, x, y, Q, tx, ty, rh, h, kq⟩ := h
  have gen := fun h' => in_any hu (neg := false) (op := .In) rfl I rx ry tx ty rh kq h'
  cases x <;> cases y <;> first
    | exact gen h
    | skip
  cases tx; cases ty
  exact op_in_str pins s σ H _ _ v u Q' I rx ry ⟨_, _, rfl, rfl, kq _ _ _ _ h (.bl _) rh (.refl _)⟩
theorem op_cNotIn (hu : X.A.units + 64 < cLine) : OpR X (compareOp .NotIn) (LOp X.K X.mg (cOp .NotIn)) := by
  intro pins s σ H x' y' v u Q' I rx ry h
  obtain ⟨T, x, y, Q, tx, ty, rh, h, kq⟩ := h
  have gen := fun h' => in_any hu (neg := true) (op := .NotIn) rfl I rx ry tx ty rh kq h'
  cases x <;> cases y <;> first
    | exact gen h
    | skip
  cases tx; cases ty
  exact op_notin_str pins s σ H _ _ v u Q' I rx ry ⟨_, _, rfl, rfl, kq _ _ _ _ h (.bl _) rh (.refl _)⟩
theorem op_c (hu : X.A.units + 64 < cLine) (op : CmpOp) : OpR X (compareOp op) (LOp X.K X.mg (cOp op)) := by
  cases op
  · exact op_cEq hu
  · exact op_cNe hu
  · exact op_cInt op_lt lt_bi lt_ib PyProof.Rows.lt_bool
  · exact op_cInt op_le le_bi le_ib PyProof.Rows.le_bool
  · exact op_cInt op_gt gt_bi gt_ib PyProof.Rows.gt_bool
  · exact op_cInt op_ge ge_bi ge_ib PyProof.Rows.ge_bool
  · exact op_cIs
  · exact op_cIsNot
  · exact op_cIn hu
  · exact op_cNotIn hu
def LUn (K : PySem.W.Frag) (mg : Str → Option Value) (t : TV → TH → TQ → Prop) : V → Hp → VK → Prop := fun x' H' Q' => ∃ H x Q, RT K H' x x' ∧ RH K mg H H' ∧ t x H Q ∧ KQ K mg H H' Q Q'
theorem un_u (op : UnaryOp) (h : op ≠ .Not) : UnR X (unaryOp op) (LUn X.K X.mg (uOp op)) := by
  intro pins s σ H x' v Q' I rx h
  obtain ⟨T, x, Q, tx, rh, h, kq⟩ := h
  cases op <;> first
    | exact absurd rfl ‹_›
    | (cases x <;> simp only [uOp] at h)
  cases tx
  exact un_neg pins s σ H _ v Q' I rx ⟨_, rfl, kq _ _ _ _ h (.int _) rh (.refl _)⟩
/-- x[y] -/
theorem ix_dct (hu : X.A.units + 1 < cLine) : IxR X (fun x y H Q => ∃ a v, x = .ref a ∧ DGet H a y (some v) ∧ Q v H) := by
  intro value slice pins s σ H x y v u Q I rx ry h hs
  obtain ⟨a, w, rfl, g, q⟩ := h
  cases rx
  exact PyProof.Rows.tail_any (dict_typeIs I g) PySem.F.slot_dict_getitem.lookup (d_getItem hu I g ry fun w' s' I' rw' => ⟨w, H, I', rw', q⟩) hs
theorem atI_low {K : PySem.W.Frag} {H : Hp} {l : List TV} {vs : List V} {i : Int} {x : TV} (r : RTs K H l vs) (e : atI l i = some x) : ∃ v, atI vs i = some v ∧ RT K H x v := by
  unfold atI at e ⊢
  rw [← r.length]
  cases q : ixN l.length i with
  | none => rw [q] at e; cases e
  | some j =>
    rw [q] at e
    exact r.get e
theorem ix_i (hu : X.A.units + 1 < cLine) : IxR X (LOp X.K X.mg ixOp) := by
  intro value slice pins s σ H x' y' v u Q' I rx ry h hs
  obtain ⟨T, x, y, Q, tx, ty, rh, h, kq⟩ := h
  unfold ixOp at h
  split at h
  · rename_i kvs hk
    obtain ⟨k, ek, w, ew, q⟩ := h
    obtain ⟨a, vs, rfl, rfl, _, h1, h2⟩ := dct_low tx rh hk
    have ekv := key_low ty ek
    subst ekv
    obtain ⟨w', e1, r1⟩ := (h2.val k).1 w ew
    exact ix_dct hu value slice pins s σ H _ _ v u Q' I rx ry ⟨a, w', rfl, by rw [← e1]; exact .k h1, kq _ _ _ _ q r1 rh (.refl _)⟩ hs
  · cases y with
    | int i =>
      cases ty
      have gen : (Need (seqOf T x) fun (_, l) => Need (atI l i) fun v => Q v T) → wpAny (model X.prog X.w) X.A (PyProof.Rows.subscriptTail value slice v u) (EP X pins σ Q') X.xe s := by
        rintro ⟨⟨t, l⟩, e, w, ew, q⟩
        cases t with
        | true =>
          obtain ⟨a, vs, rfl, r1, s1⟩ := seq_lowT tx rh e
          obtain ⟨w', e1, r2⟩ := atI_low r1 ew
          exact ix_tup value slice pins s σ H _ _ v u Q' I rx ry ⟨a, vs, i, w', rfl, rfl, s1, e1, kq _ _ _ _ q r2 rh (.refl _)⟩ hs
        | false =>
          obtain ⟨a, vs, rfl, r1, s1, _⟩ := seq_lowL tx rh e
          obtain ⟨w', e1, r2⟩ := atI_low r1 ew
          exact ix_list value slice pins s σ H _ _ v u Q' I rx ry ⟨a, vs, i, w', rfl, rfl, s1, e1, kq _ _ _ _ q r2 rh (.refl _)⟩ hs
      cases x with
      | str z =>
        cases tx
        obtain ⟨hz, c, ec, q⟩ := h
        exact ix_str value slice pins s σ H _ _ v u Q' I rx ry ⟨z, i, c, rfl, rfl, hz, ec, kq _ _ _ _ q (.str _) rh (.refl _)⟩ hs
      | _ => exact gen h
    | _ => exact h.elim
/-- x[lo:hi] -/
def LSl (K : PySem.W.Frag) (mg : Str → Option Value) : V → Option Int → Option Int → Hp → VK → Prop := fun x' lo hi H' Q' => ∃ H x Q, RT K H' x x' ∧ RH K mg H H' ∧ slOp x lo hi H Q ∧ KQ K mg H H' Q Q'
theorem cut_low {K : PySem.W.Frag} {H : Hp} {l : List TV} {vs : List V} (lo hi : Option Int) (r : RTs K H l vs) : RTs K H (cutT l lo hi) (cutV vs lo hi) := by
  unfold cutT cutV
  rw [← r.length]
  exact (r.drop _).take _
theorem cut_whole {l : List TV} {lo hi : Option Int} (h : HT.sIx l.length 0 lo = 0 ∧ HT.sIx l.length l.length hi = l.length) : cutT l lo hi = l := by
  unfold cutT
  rw [h.1, h.2]
  simp
theorem sl_s : SlR X (LSl X.K X.mg) := by
  intro pins s σ H x' v vl vu lo hi sl Q' I rx hs pl pu h
  obtain ⟨T, x, Q, tx, rh, h, kq⟩ := h
  have gen : (Need (seqOf T x) fun (t, l) => t = false ∧ ∀ p, T p = none → Q (.ref p) (tupd T p (.lst (cutT l lo hi)))) →
      ∃ U id, typeLookup (.type U) "__getitem__" = pure (some (.builtin id)) ∧ s.TypeIs v U ∧ wpAny (model X.prog X.w) X.A (getItem v (.ref sl)) (EP X pins σ Q') X.xe s := by
    rintro ⟨⟨t, l⟩, e, ht, q⟩
    have ht' : t = false := ht
    subst ht'
    obtain ⟨a, vs, rfl, r1, s1, _⟩ := seq_lowL tx rh e
    exact sl_list pins s σ H _ v vl vu lo hi sl Q' I rx hs pl pu ⟨a, vs, rfl, s1, fun p hp => kq _ _ _ _ (q p (rh.free hp)) (.ref p) (rh.add hp ⟨_, upd_same, (cut_low lo hi r1).keep (.new hp)⟩) (.new hp)⟩
  cases x with
  | str z =>
    cases tx
    exact sl_str pins s σ H _ v vl vu lo hi sl Q' I rx hs pl pu ⟨z, rfl, h.1, kq _ _ _ _ h.2 (.str _) rh (.refl _)⟩
  | tup l =>
    cases tx with
    | @tup a vs _ h1 r1 =>
    refine sl_tupA pins s σ H _ v vl vu lo hi sl Q' I rx hs pl pu ⟨a, vs, rfl, h1, fun hw => ?_, fun hw p hp => ?_⟩
    · rw [← r1.length] at hw
      have h' : Q (.tup (cutT l lo hi)) T := h
      rw [cut_whole hw] at h'
      exact kq _ _ _ _ h' (.tup h1 r1) rh (.refl _)
    · exact kq _ _ _ _ h (.tup (.of upd_same) ((cut_low lo hi r1).keep (.new hp))) (rh.new hp) (.new hp)
  | _ => exact gen h
end
end TL


set_option Elab.async false
set_option linter.all false
set_option maxRecDepth 100000
/-! TL4e: built-in functions and types called; isinstance against built-in types. -/
namespace TL
open PySem PySem.Spec L2
def LCall (K : PySem.W.Frag) (mg : Str → Option Value) (t : List TV → TH → TQ → Prop) : List V → Hp → VK → Prop := fun xs' H' Q' => ∃ H xs Q, RTs K H' xs xs' ∧ RH K mg H H' ∧ t xs H Q ∧ KQ K mg H H' Q Q'
section
variable {K : PySem.W.Frag} {mg : Str → Option Value} {H : Hp} {T : TH}
theorem bools_low : ∀ {l : List TV} {vs : List V} {bs : List Bool}, RTs K H l vs → boolsOf l = some bs → vs = bs.map V.bl
  | [], _, bs, .nil, e => by simp only [boolsOf, Option.some.injEq] at e; subst e; rfl
  | x :: l, _, bs, .cons a b, e => by
    cases a with
    | bl k =>
      simp only [boolsOf] at e
      cases q : boolsOf l with
      | none => rw [q] at e; cases e
      | some c =>
        rw [q] at e
        simp only [Option.map_some, Option.some.injEq] at e
        subst e
        rw [bools_low b q]
        rfl
    | _ => cases e
theorem rts1 {x : TV} {vs : List V} (r : RTs K H [x] vs) : ∃ v, vs = [v] ∧ RT K H x v := by
  cases r with
  | cons a b => cases b; exact ⟨_, rfl, a⟩
theorem rts2 {x y : TV} {vs : List V} (r : RTs K H [x, y] vs) : ∃ v w, vs = [v, w] ∧ RT K H x v ∧ RT K H y w := by
  cases r with
  | cons a b => cases b with
    | cons c d => cases d; exact ⟨_, _, rfl, a, c⟩
end
def cLen (xs : List TV) (H : TH) (Q : TQ) : Prop := match xs with
  | [x] => Need (lenOf H x) fun n => Q (.int n) H
  | _ => False
def cAbs (xs : List TV) (H : TH) (Q : TQ) : Prop := match xs with
  | [.int i] => Q (.int (if i < 0 then -i else i)) H
  | _ => False
def cMax (xs : List TV) (H : TH) (Q : TQ) : Prop := match xs with
  | [.int i, .int j] => Q (.int (if j > i then j else i)) H
  | _ => False
def cMin (xs : List TV) (H : TH) (Q : TQ) : Prop := match xs with
  | [.int i, .int j] => Q (.int (if j < i then j else i)) H
  | _ => False
def cIntF (xs : List TV) (H : TH) (Q : TQ) : Prop := match xs with
  | [.str a] => Need (PySem.intText? a) fun n => a.length ≤ 640 ∧ Q (.int n) H
  | [x] => Need (intTV x) fun n => Q (.int n) H
  | _ => False
def cStr (xs : List TV) (H : TH) (Q : TQ) : Prop := match xs with
  | [.int i] => i.natAbs.log2 < 1920 ∧ Q (.str (toString i)) H
  | [.str a] => Q (.str a) H
  | _ => False
def cTuple (xs : List TV) (H : TH) (Q : TQ) : Prop := match xs with
  | [x] => Need (seqOf H x) fun (_, l) => Q (.tup l) H
  | _ => False
def cList (xs : List TV) (H : TH) (Q : TQ) : Prop := match xs with
  | [x] => Need (seqOf H x) fun (_, l) => ∀ p, H p = none → Q (.ref p) (tupd H p (.lst l))
  | _ => False
def cAll (xs : List TV) (H : TH) (Q : TQ) : Prop := match xs with
  | [x] => Need (seqOf H x) fun (t, l) => t = false ∧ Need (boolsOf l) fun bs => Q (.bl (bs.all id)) H
  | _ => False
def cAny (xs : List TV) (H : TH) (Q : TQ) : Prop := match xs with
  | [x] => Need (seqOf H x) fun (t, l) => t = false ∧ Need (boolsOf l) fun bs => Q (.bl (bs.any id)) H
  | _ => False
section
variable {X : Cx}
theorem kl_len : CallR X (.builtin "len") (LCall X.K X.mg cLen) := by
  intro pins s σ H xs' us Q' I rv h
  obtain ⟨T, xs, Q, tx, rh, h, kq⟩ := h
  match xs, h with
  | [x], ⟨n, e, q⟩ =>
  obtain ⟨v, rfl, r⟩ := rts1 tx
  have fin : Q' (.int n) H := kq _ _ _ _ q (.int _) rh (.refl _)
  cases r with
  | str z =>
    simp only [lenOf] at e
    split at e
    · rename_i hz
      simp only [Option.some.injEq] at e; subst e
      exact call_len pins s σ H _ us Q' I rv ⟨_, _, rfl, ⟨hz, rfl⟩, fin⟩
    · cases e
  | tup h1 r1 =>
    simp only [lenOf, Option.some.injEq] at e; subst e
    exact call_len pins s σ H _ us Q' I rv ⟨_, _, rfl, .inr ⟨_, h1, r1.length⟩, fin⟩
  | rol h1 r1 =>
    simp only [lenOf, Option.some.injEq] at e; subst e
    exact call_len pins s σ H _ us Q' I rv ⟨_, _, rfl, .inl ⟨_, h1.l, r1.length⟩, fin⟩
  | ref a =>
    simp only [lenOf] at e
    split at e
    · rename_i l hl
      simp only [Option.some.injEq] at e; subst e
      obtain ⟨vs, h1, r1⟩ := rh a _ hl
      exact call_len pins s σ H _ us Q' I rv ⟨_, _, rfl, .inl ⟨_, .of h1, r1.length⟩, fin⟩
    · rename_i l hl
      simp only [Option.some.injEq] at e; subst e
      obtain ⟨vs, h1, r1⟩ := rh a _ hl
      exact call_lenD pins s σ H _ us Q' I rv ⟨_, _, rfl, h1, by rw [← r1.length]; exact fin⟩
    · cases e
  | _ => cases e
theorem kl_abs : CallR X (.builtin "abs") (LCall X.K X.mg cAbs) := by
  intro pins s σ H xs' us Q' I rv h
  obtain ⟨T, xs, Q, tx, rh, h, kq⟩ := h
  unfold cAbs at h
  split at h
  · obtain ⟨v, rfl, r⟩ := rts1 tx
    cases r
    exact call_abs pins s σ H _ us Q' I rv ⟨_, rfl, kq _ _ _ _ h (.int _) rh (.refl _)⟩
  · exact h.elim
theorem kl_max (hc : X.calm = true) : CallR X (.builtin "max") (LCall X.K X.mg cMax) := by
  intro pins s σ H xs' us Q' I rv h
  obtain ⟨T, xs, Q, tx, rh, h, kq⟩ := h
  unfold cMax at h
  split at h
  · obtain ⟨v, w, rfl, r, r'⟩ := rts2 tx
    cases r; cases r'
    exact call_max2 hc pins s σ H _ us Q' I rv ⟨_, _, rfl, kq _ _ _ _ h (.int _) rh (.refl _)⟩
  · exact h.elim
theorem kl_min (hc : X.calm = true) : CallR X (.builtin "min") (LCall X.K X.mg cMin) := by
  intro pins s σ H xs' us Q' I rv h
  obtain ⟨T, xs, Q, tx, rh, h, kq⟩ := h
  unfold cMin at h
  split at h
  · obtain ⟨v, w, rfl, r, r'⟩ := rts2 tx
    cases r; cases r'
    exact call_min2 hc pins s σ H _ us Q' I rv ⟨_, _, rfl, kq _ _ _ _ h (.int _) rh (.refl _)⟩
  · exact h.elim
theorem kl_int : CallR X (.type "int") (LCall X.K X.mg cIntF) := by
  intro pins s σ H xs' us Q' I rv h
  obtain ⟨T, xs, Q, tx, rh, h, kq⟩ := h
  unfold cIntF at h
  split at h
  · obtain ⟨v, rfl, r⟩ := rts1 tx
    cases r
    obtain ⟨n, e, hz, q⟩ := h
    exact call_int_str pins s σ H _ us Q' I rv ⟨_, n, rfl, e, hz, kq _ _ _ _ q (.int _) rh (.refl _)⟩
  · obtain ⟨v, rfl, r⟩ := rts1 tx
    obtain ⟨n, e, q⟩ := h
    have fin : Q' (.int n) H := kq _ _ _ _ q (.int _) rh (.refl _)
    cases r <;> simp only [intTV, Option.some.injEq, reduceCtorEq] at e
    · subst e
      exact call_int1 pins s σ H _ us Q' I rv (.inr ⟨_, rfl, fin⟩)
    · subst e
      exact call_int1 pins s σ H _ us Q' I rv (.inl ⟨_, rfl, fin⟩)
  · exact h.elim
theorem kl_str : CallR X (.type "str") (LCall X.K X.mg cStr) := by
  intro pins s σ H xs' us Q' I rv h
  obtain ⟨T, xs, Q, tx, rh, h, kq⟩ := h
  unfold cStr at h
  split at h
  · obtain ⟨v, rfl, r⟩ := rts1 tx
    cases r
    exact call_str_int pins s σ H _ us Q' I rv ⟨_, rfl, h.1, kq _ _ _ _ h.2 (.str _) rh (.refl _)⟩
  · obtain ⟨v, rfl, r⟩ := rts1 tx
    cases r
    exact SkE.call_str_str pins s σ H _ us Q' I rv ⟨_, rfl, kq _ _ _ _ h (.str _) rh (.refl _)⟩
  · exact h.elim
theorem kl_tuple : CallR X (.type "tuple") (LCall X.K X.mg cTuple) := by
  intro pins s σ H xs' us Q' I rv h
  obtain ⟨T, xs, Q, tx, rh, h, kq⟩ := h
  match xs, h with
  | [x], ⟨(t, l), e, q⟩ =>
  obtain ⟨v, rfl, r⟩ := rts1 tx
  cases t with
  | true =>
    obtain ⟨a, vs, rfl, r1, s1⟩ := seq_lowT r rh e
    exact call_tuple_of pins s σ H _ us Q' I rv ⟨a, vs, rfl, .inr ⟨s1, kq _ _ _ _ q (.tup s1 r1) rh (.refl _)⟩⟩
  | false =>
    obtain ⟨a, vs, rfl, r1, s1, _⟩ := seq_lowL r rh e
    exact call_tuple_of pins s σ H _ us Q' I rv ⟨a, vs, rfl, .inl ⟨s1, fun p hp => kq _ _ _ _ q (.tup (.of upd_same) (r1.keep (.new hp))) (rh.new hp) (.new hp)⟩⟩
theorem kl_list : CallR X (.type "list") (LCall X.K X.mg cList) := by
  intro pins s σ H xs' us Q' I rv h
  obtain ⟨T, xs, Q, tx, rh, h, kq⟩ := h
  match xs, h with
  | [x], ⟨(t, l), e, q⟩ =>
  obtain ⟨v, rfl, r⟩ := rts1 tx
  obtain ⟨a, vs, rfl, r1, s1⟩ := seq_lowE r rh e
  exact call_list_of pins s σ H _ us Q' I rv ⟨a, vs, rfl, s1, fun p hp => kq _ _ _ _ (q p (rh.free hp)) (.ref p) (rh.add hp ⟨_, upd_same, r1.keep (.new hp)⟩) (.new hp)⟩
theorem kl_all (hc : X.calm = true) : CallR X (.builtin "all") (LCall X.K X.mg cAll) := by
  intro pins s σ H xs' us Q' I rv h
  obtain ⟨T, xs, Q, tx, rh, h, kq⟩ := h
  match xs, h with
  | [x], ⟨(t, l), e, ht, bs, eb, q⟩ =>
  obtain ⟨v, rfl, r⟩ := rts1 tx
  have ht' : t = false := ht
  subst ht'
  obtain ⟨a, vs, rfl, r1, s1, _⟩ := seq_lowL r rh e
  rw [bools_low r1 eb] at s1
  exact cr_all hc pins s σ H _ us Q' I rv ⟨a, bs, rfl, s1, kq _ _ _ _ q (.bl _) rh (.refl _)⟩
theorem kl_any (hc : X.calm = true) : CallR X (.builtin "any") (LCall X.K X.mg cAny) := by
  intro pins s σ H xs' us Q' I rv h
  obtain ⟨T, xs, Q, tx, rh, h, kq⟩ := h
  match xs, h with
  | [x], ⟨(t, l), e, ht, bs, eb, q⟩ =>
  obtain ⟨v, rfl, r⟩ := rts1 tx
  have ht' : t = false := ht
  subst ht'
  obtain ⟨a, vs, rfl, r1, s1, _⟩ := seq_lowL r rh e
  rw [bools_low r1 eb] at s1
  exact cr_any hc pins s σ H _ us Q' I rv ⟨a, bs, rfl, s1, kq _ _ _ _ q (.bl _) rh (.refl _)⟩
end
/-! ### isinstance -/
/-- a class named: a built-in type, or one of the text's -/
abbrev TyN := Bool × Str
def strNm (x : Str) : Option String := if x = "int" then some "int" else if x = "bool" then some "bool" else if x = "str" then some "str" else if x = "tuple" then some "tuple" else if x = "list" then some "list" else if x = "dict" then some "dict" else if x = "NoneType" then some "NoneType" else none
def tyVal (mg : Str → Option Value) (t : TyN) : Option Value := if t.1 = true then (strNm t.2).map Value.type else match mg t.2 with
  | some (.ref C) => some (.ref C)
  | _ => none
def strIsa (t u : String) : Bool := t == u || (t == "bool" && u == "int")
theorem kit_known (K : PySem.W.Frag) : ∀ t ∈ (["int", "bool", "str", "tuple", "list", "dict", "NoneType"] : List String), ∀ u ∈ (["int", "bool", "str", "tuple", "list", "dict"] : List String), PySem.W.kitOne K (.type t) (.type u) = some (strIsa t u) := by
  have h : ∀ t ∈ (["int", "bool", "str", "tuple", "list", "dict", "NoneType"] : List String), ∀ u ∈ (["int", "bool", "str", "tuple", "list", "dict"] : List String), kitB t u = some (strIsa t u) := by decide +kernel
  intro t ht u hu
  exact kit_ty (h t ht u hu)
section
variable {K : PySem.W.Frag} {mg : Str → Option Value} {H : Hp} {T : TH}
theorem ty_low {x : TV} {v : V} {c : Str} (r : RT K H x v) (rh : RH K mg T H) (e : tyOf T x = some (true, c)) : ∃ n, strNm c = some n ∧ n ∈ (["int", "bool", "str", "tuple", "list", "dict", "NoneType"] : List String) ∧ TyX K H v (.type n) := by
  cases r with
  | non => cases e; exact ⟨_, rfl, by decide, .base .non⟩
  | bl => cases e; exact ⟨_, rfl, by decide, .base (.bl _)⟩
  | int => cases e; exact ⟨_, rfl, by decide, .base (.int _)⟩
  | str => cases e; exact ⟨_, rfl, by decide, .base (.str _)⟩
  | tup h1 _ =>
    cases e
    refine ⟨"tuple", by decide +kernel, by decide, ?_⟩
    rcases h1 with (h | ⟨o, h⟩) | ⟨o, its, n, h, hc, _⟩
    · exact .base (.tup h)
    · exact .fTuple h
    · exact .kTuple h hc
  | rol h1 _ =>
    cases e
    refine ⟨"list", by decide +kernel, by decide, ?_⟩
    rcases h1 with ⟨o, h⟩ | ⟨its, n, h, _⟩
    · exact .base (.frz h)
    · exact .kList h rfl
  | ref a =>
    simp only [tyOf] at e
    split at e
    · rename_i l hl
      cases e
      obtain ⟨vs, h, _⟩ := rh a _ hl
      exact ⟨"list", by decide +kernel, by decide, .base (.lst h)⟩
    · rename_i l hl
      cases e
      obtain ⟨vs, h, _⟩ := rh a _ hl
      exact ⟨"dict", by decide +kernel, by decide, .base (.dK h)⟩
    · cases e
    · cases e
    · cases e
end
end TL


set_option Elab.async false
set_option linter.all false
set_option maxRecDepth 100000
/-! TL4f: repr of nested data. -/
namespace TL
open PySem PySem.Spec L2
/-- a list, each of which is known -/
def allSome {α : Type} : List (Option α) → Option (List α)
  | [] => some []
  | none :: _ => none
  | some a :: r => (allSome r).map (a :: ·)
/-- the data that a value is, to depth n -/
def datOf (H : TH) : Nat → TV → Option PyData
  | _, .non => some .none
  | _, .bl b => some (.bool b)
  | _, .int i => some (.int i)
  | _, .str x => some (.str x)
  | 0, _ => none
  | n + 1, x => match seqOf H x with
    | some (t, l) => (allSome (l.map (datOf H n))).map fun ds => if t = true then .tuple ds else .list ds
    | none => none
/-- it may be shown -/
structure Shw (d : PyData) : Prop where
  s : d.showable = true
  dp : d.depth ≤ 60
  h : d.hasDict = false
  l : d.shown.length ≤ sizeLine
def cRepr (xs : List TV) (H : TH) (Q : TQ) : Prop := match xs with
  | [x] => Need (datOf H 20 x) fun d => Shw d ∧ Q (.str d.shown) H
  | _ => False
section
variable {P : Program} {w : World} {K : PySem.W.Frag} {mg : Str → Option Value} {H : Hp} {T : TH} {h : Heap}
theorem tup_reads (kin : K.In h) (ok : HOk P w H h) {a : Addr} {vs : List V} (s : SqT K H a vs) : ∃ o its n, h.get? a = some o ∧ o.cls = .type "tuple" ∧ o.data = .seq its n ∧ Vals vs its.toList := by
  rcases s with (s | ⟨o, s⟩) | s
  · obtain ⟨_, its, r, o, e, c, n, d⟩ := ok _ _ s
    exact ⟨o, its.toArray, n, e, c, d, by simpa using r⟩
  · obtain ⟨_, _, its, r, o', e, c, n, d⟩ := ok _ _ s
    exact ⟨o', its.toArray, n, e, c, d, by simpa using r⟩
  · obtain ⟨o, its, n, e, c, d, _, z⟩ := s
    exact ⟨o, its, n, kin _ _ e, c, d, z⟩
theorem lst_reads (kin : K.In h) (ok : HOk P w H h) {a : Addr} {vs : List V} (s : SqL K H a vs) : ∃ o its n, h.get? a = some o ∧ o.cls = .type "list" ∧ o.data = .seq its n ∧ Vals vs its.toList := by
  rcases s with (s | ⟨o, s⟩) | s
  · obtain ⟨_, its, n, r, e⟩ := ok _ _ s
    exact ⟨_, its.toArray, n, e, rfl, rfl, by simpa using r⟩
  · obtain ⟨_, _, its, n, r, e⟩ := ok _ _ s
    exact ⟨_, its.toArray, n, e, rfl, rfl, by simpa using r⟩
  · obtain ⟨o, its, n, e, c, _, d, _, z⟩ := s
    exact ⟨o, its, n, kin _ _ e, c, d, z⟩
theorem all_some {α : Type} : ∀ {l : List (Option α)} {ds : List α}, allSome l = some ds → l = ds.map some
  | [], ds, e => by simp only [allSome, Option.some.injEq] at e; subst e; rfl
  | none :: _, ds, e => by cases e
  | some a :: r, ds, e => by
    simp only [allSome] at e
    cases q : allSome r with
    | none => rw [q] at e; cases e
    | some c =>
      rw [q] at e
      simp only [Option.map_some, Option.some.injEq] at e
      subst e
      rw [all_some q]
      rfl
theorem dat_low (kin : K.In h) (ok : HOk P w H h) (rh : RH K mg T H) : ∀ (n : Nat) {x : TV} {v : V} {u : Value} {d : PyData}, RT K H x v → RelV v u → datOf T n x = some d → ∃ as, Reads h u d as := by
  intro n
  induction n with
  | zero =>
    intro x v u d r rv e
    cases r with
    | non => obtain rfl : u = .none := rv; cases e; exact ⟨_, .none⟩
    | bl b => obtain rfl : u = .bool b := rv; cases e; exact ⟨_, .bool b⟩
    | int i => obtain ⟨t, rfl⟩ := rv; cases e; exact ⟨_, .int i t⟩
    | str y => obtain ⟨t, rfl⟩ := rv; cases e; exact ⟨_, .str y t⟩
    | tup _ _ => cases e
    | rol _ _ => cases e
    | ref a => cases e
  | succ n ih =>
    have many : ∀ {l : List TV} {vs : List V} {us : List Value} {ds : List PyData}, RTs K H l vs → Vals vs us → allSome (l.map (datOf T n)) = some ds → ∃ as, ReadsAll h us ds as := by
      intro l
      induction l with
      | nil =>
        intro vs us ds r rv e
        cases r
        cases rv
        cases e
        exact ⟨_, .nil⟩
      | cons x l ihl =>
        intro vs us ds r rv e
        cases r with
        | cons r1 r2 =>
          cases rv with
          | cons v1 v2 =>
            rw [List.map_cons] at e
            cases q : datOf T n x with
            | none => rw [q] at e; cases e
            | some d1 =>
              rw [q] at e
              simp only [allSome] at e
              cases q2 : allSome (l.map (datOf T n)) with
              | none => rw [q2] at e; cases e
              | some d2 =>
                rw [q2] at e
                simp only [Option.map_some, Option.some.injEq] at e
                subst e
                obtain ⟨a1, h1⟩ := ih r1 v1 q
                obtain ⟨a2, h2⟩ := ihl r2 v2 q2
                exact ⟨_, .cons h1 h2⟩
    intro x v u d r rv e
    have seqs : (match seqOf T x with
        | some (t, l) => (allSome (l.map (datOf T n))).map fun ds => if t = true then PyData.tuple ds else PyData.list ds
        | none => none) = some d → ∃ as, Reads h u d as := by
      intro e
      cases q : seqOf T x with
      | none => rw [q] at e; cases e
      | some p =>
        obtain ⟨t, l⟩ := p
        rw [q] at e
        simp only at e
        cases q2 : allSome (l.map (datOf T n)) with
        | none => rw [q2] at e; cases e
        | some ds =>
          rw [q2] at e
          simp only [Option.map_some, Option.some.injEq] at e
          subst e
          cases t with
          | true =>
            obtain ⟨a, vs, rfl, r1, s⟩ := seq_lowT r rh q
            obtain rfl : u = .ref a := rv
            obtain ⟨o, its, m, h1, h2, h3, h4⟩ := tup_reads kin ok s
            obtain ⟨as, hr⟩ := many r1 h4 q2
            exact ⟨_, .tuple h1 h2 h3 hr⟩
          | false =>
            obtain ⟨a, vs, rfl, r1, s, _⟩ := seq_lowL r rh q
            obtain rfl : u = .ref a := rv
            obtain ⟨o, its, m, h1, h2, h3, h4⟩ := lst_reads kin ok s
            obtain ⟨as, hr⟩ := many r1 h4 q2
            exact ⟨_, .list h1 h2 h3 hr⟩
    cases r with
    | non => obtain rfl : u = .none := rv; cases e; exact ⟨_, .none⟩
    | bl b => obtain rfl : u = .bool b := rv; cases e; exact ⟨_, .bool b⟩
    | int i => obtain ⟨t, rfl⟩ := rv; cases e; exact ⟨_, .int i t⟩
    | str y => obtain ⟨t, rfl⟩ := rv; cases e; exact ⟨_, .str y t⟩
    | tup h1 h2 => exact seqs e
    | rol h1 h2 => exact seqs e
    | ref a => exact seqs e
end
section
variable {X : Cx}
theorem kl_repr (hg : X.A.guards = some []) (hu : X.A.units + 100 < cLine) : CallR X (.builtin "repr") (LCall X.K X.mg cRepr) := by
  intro pins s σ H xs' us Q' I rv h
  obtain ⟨T, xs, Q, tx, rh, h, kq⟩ := h
  match xs, h with
  | [x], ⟨d, e, sh, q⟩ =>
  obtain ⟨v, rfl, r⟩ := rts1 tx
  obtain ⟨u, rfl, rv1⟩ := vals1 rv
  obtain ⟨as, hr⟩ := dat_low I.kIn I.hok rh 20 r rv1 e
  have fin : ∀ h' t tk, (∀ b o, s.heap.get? b = some o → h'.get? b = some o) → EP X pins σ Q' (.str d.shown t) { s with heap := h', toks := tk } := fun h' t tk hk =>
    ⟨.str d.shown, H, I.kept hk, ⟨t, rfl⟩, kq _ _ _ _ q (.str _) rh (.refl _)⟩
  have ld := sh.l
  have sd := sh.s
  cases hr with
  | none => exact PySem.P.repr_of_none (fin s.heap _ _ fun _ _ e => e)
  | bool b => exact PySem.P.repr_of_bool (by simpa only [PyData.shown] using fin s.heap _ _ fun _ _ e => e)
  | int i t => exact PySem.P.repr_of_int (by simpa only [PyData.showable, decide_eq_true_eq] using sd) (by simpa only [PyData.shown] using fin s.heap _ _ fun _ _ e => e)
  | str y t => exact PySem.P.repr_of_str (by simpa only [PyData.shown] using fin s.heap _ _ fun _ _ e => e) (by simpa only [PyData.shown] using ld)
  | list h1 h2 h3 h4 => exact repr_of_reads' (.list h1 h2 h3 h4) sh.s (PyData.noDict_hsm sh.h) hg (by have := sh.dp; omega) (fun _ _ e => e) fin sh.l
  | tuple h1 h2 h3 h4 => exact repr_of_reads' (.tuple h1 h2 h3 h4) sh.s (PyData.noDict_hsm sh.h) hg (by have := sh.dp; omega) (fun _ _ e => e) fin sh.l
  | dict h1 h2 h3 h4 h5 => exact repr_of_reads' (.dict h1 h2 h3 h4 h5) sh.s (PyData.noDict_hsm sh.h) hg (by have := sh.dp; omega) (fun _ _ e => e) fin sh.l
end
end TL


set_option Elab.async false
set_option linter.all false
set_option maxRecDepth 100000
/-! TL5: the computed reading of expressions and statements. -/
namespace TL
open PySem PySem.Spec L2
/-! ### methods of built-in types -/
def mAppend (x : TV) (xs : List TV) (H : TH) (Q : TQ) : Prop := match x, xs with
  | .ref a, [y] => ∃ l, H a = some (.lst l) ∧ l.length < sizeLine ∧ Q .non (tupd H a (.lst (l ++ [y])))
  | _, _ => False
def mExtend (x : TV) (xs : List TV) (H : TH) (Q : TQ) : Prop := match x, xs with
  | .ref a, [.ref b] => ∃ l m, H a = some (.lst l) ∧ H b = some (.lst m) ∧ l.length + m.length ≤ sizeLine ∧ Q .non (tupd H a (.lst (l ++ m)))
  | _, _ => False
def mPop (x : TV) (xs : List TV) (H : TH) (Q : TQ) : Prop := match x, xs with
  | .ref a, [] => ∃ l y, H a = some (.lst l) ∧ l[l.length - 1]? = some y ∧ Q y (tupd H a (.lst l.dropLast))
  | _, _ => False
def strsOf : List TV → Option (List Str)
  | [] => some []
  | .str x :: r => (strsOf r).map (x :: ·)
  | _ => none
def mJoin (x : TV) (xs : List TV) (H : TH) (Q : TQ) : Prop := match x, xs with
  | .str a, [y] => Need (seqOf H y) fun (_, l) => Need (strsOf l) fun ys => (ys.map (·.length)).sum + ys.length * a.length ≤ 16777216 ∧ Q (.str (Txt.join a ys)) H
  | _, _ => False
def mSplit (x : TV) (xs : List TV) (H : TH) (Q : TQ) : Prop := match x, xs with
  | .str a, [.str b] => (b.length == 0) = false ∧ a.length + 2 ≤ sizeLine ∧ ∀ p, H p = none → Q (.ref p) (tupd H p (.lst ((Txt.split a b).map TV.str)))
  | _, _ => False
def mIndexS (x : TV) (xs : List TV) (H : TH) (Q : TQ) : Prop := match x, xs with
  | .str a, [.str b] => ∃ i rest, Builtin.Str.occurrences a b 0 a.length 1 = i :: rest ∧ Q (.int (i : Nat)) H
  | _, _ => False
/-- which built-in type a method is of, and what it does -/
structure BM where
  ty : String
  id : String
  m : TV → List TV → TH → TQ → Prop
def bmOf (name : Str) (n : Nat) : Option BM :=
  if name = "append" ∧ n = 1 then some ⟨"list", "list.append", mAppend⟩
  else if name = "extend" ∧ n = 1 then some ⟨"list", "list.extend", mExtend⟩
  else if name = "pop" ∧ n = 0 then some ⟨"list", "list.pop", mPop⟩
  else if name = "join" ∧ n = 1 then some ⟨"str", "str.join", mJoin⟩
  else if name = "split" ∧ n = 1 then some ⟨"str", "str.split", mSplit⟩
  else if name = "index" ∧ n = 1 then some ⟨"str", "str.index", mIndexS⟩
  else none
/-- it is of that type -/
def isTy (T : String) (H : TH) (x : TV) : Prop := match x with
  | .str _ => T = "str"
  | .rol _ => T = "list"
  | .ref a => match H a with
    | some (.lst _) => T = "list"
    | some (.dct _) => T = "dict"
    | _ => False
  | _ => False
/-! ### the context of a def: its names, their kinds; what the module's names are -/
inductive BF where
  | len | abs | max | min | int | str | tuple | list | all | any | repr
def bfOf (x : Str) : Option BF :=
  if x = "len" then some .len else if x = "abs" then some .abs else if x = "max" then some .max else if x = "min" then some .min
  else if x = "int" then some .int else if x = "str" then some .str else if x = "tuple" then some .tuple else if x = "list" then some .list
  else if x = "all" then some .all else if x = "any" then some .any else if x = "repr" then some .repr else none
def bfDo (f : BF) : List TV → TH → TQ → Prop := match f with
  | .len => cLen | .abs => cAbs | .max => cMax | .min => cMin | .int => cIntF | .str => cStr | .tuple => cTuple | .list => cList | .all => cAll | .any => cAny | .repr => cRepr
def bNames : List Str := ["len", "abs", "max", "min", "int", "str", "tuple", "list", "all", "any", "isinstance", "range", "enumerate", "zip", "bool", "dict", "repr", "sum", "sorted", "ValueError"]
/-- the making of an exception: from the arguments, its fields -/
abbrev XSp := List TV → TH → (List (Str × TV) → Prop) → Prop
/-- an exception class of the text: how it is made, whether it is one of other classes, the names that its fields may have -/
structure CI where
  xk : XSp
  rel : List (Str × Bool)
  fld : List Str
/-- what the module's names stand for -/
structure GE where
  fn : Str → Option TSp
  con : Str → Option TV
  cls : Str → Option CI
/-- the class of an exception -/
def excOf (H : TH) : TV → Option Str
  | .ref a => match H a with
    | some (.exc k _) => some k
    | _ => none
  | _ => none
/-- whether a thing is one of an exception class -/
def isoOf (G : GE) (H : TH) (x : TV) (c : Str) : Option Bool := match excOf H x with
  | some k => (G.cls k).bind fun ci => ci.rel.lookup c
  | none => match tyOf H x with
    | some (true, _) => some false
    | _ => none
def isoAny (G : GE) (H : TH) (x : TV) : List Str → Option Bool
  | [] => some false
  | c :: r => match isoOf G H x c, isoAny G H x r with
    | some b, some d => some (b || d)
    | _, _ => none
/-- whether a thing of one type is one of another: of the text's classes -/
def nameW (S : SC) (G : GE) (x : Str) : TEx := match idx S.N x with
  | some i => fun σ H E Q => (okName x && visB S.sc x) = true ∧ tVarT i σ H E Q
  | none => fun _ H _ Q => (okName x && glB S.sc x) = true ∧ Need (G.con x) fun v => Q v H
def isiNames : Expr → Option (List Str)
  | .Name x _ => some [x]
  | _ => none
def isiW (S : SC) (te : TEx) (c : Str) : TEx := fun σ H E Q => (okName c && glB S.sc c && (idx S.N c).isNone) = true ∧ Need (strNm c) fun m => m ≠ "NoneType" ∧ te σ H E fun x H1 =>
  Need (tyOf H1 x) fun t => t.1 = true ∧ Need (strNm t.2) fun n => Q (.bl (strIsa n m)) H1
def clsOk (S : SC) (G : GE) (c : Str) : Bool := okName c && glB S.sc c && (idx S.N c).isNone && ((G.cls c).isSome || c == "ValueError")
def isoW (S : SC) (G : GE) (te : TEx) (cs : List Str) : TEx := fun σ H E Q => cs.all (clsOk S G) = true ∧ te σ H E fun x H1 => Need (isoAny G H1 x cs) fun b => Q (.bl b) H1
/-- a call of a name: args, their number -/
def callW (S : SC) (G : GE) (f : Str) (ta : TAx) : TEx := fun σ H E Q => (okName f && glB S.sc f && (idx S.N f).isNone && S.calm) = true ∧ (match bfOf f with
  | some b => ta σ H E fun xs H1 => bfDo b xs H1 Q
  | none => (match G.fn f with
    | some sp => ta σ H E fun xs H1 => sp xs H1 E Q
    | none => S.top = true ∧ Need (G.cls f) fun ci => ta σ H E fun xs H1 => xs ≠ [] ∧ ci.xk xs H1 fun fs => ∀ p, H1 p = none → Q (.ref p) (tupd H1 p (.exc f fs))))
/-- an exception's field -/
def attrOp (G : GE) (n : Str) (x : TV) (H : TH) (Q : TQ) : Prop := match x with
  | .ref a => (match H a with
    | some (.exc c fs) => Need (G.cls c) fun ci => ci.fld.contains n = true ∧ Need (fs.lookup n) fun v => Q v H
    | _ => False)
  | _ => False
def methW (b : BM) (to : TEx) (ta : TAx) : TEx := fun σ H E Q => to σ H E fun x H1 => isTy b.ty H1 x ∧ ta σ H1 E fun xs H2 => b.m x xs H2 Q
def optW (f : Expr → TEx) : Option Expr → TSt → TH → TX → (Option Int → TH → Prop) → Prop
  | none => fun _ H _ Q => Q none H
  | some e => fun σ H E Q => f e σ H E fun x H1 => ∃ i, x = .int i ∧ Q (some i) H1
def slW (te : TEx) (lo hi : TSt → TH → TX → (Option Int → TH → Prop) → Prop) : TEx := fun σ H E Q => te σ H E fun x H1 => lo σ H1 E fun l H2 => hi σ H2 E fun u H3 => slOp x l u H3 Q
def tupW (ta : TAx) : TEx := fun σ H E Q => ta σ H E fun xs H1 => xs.length ≤ sizeLine ∧ Q (.tup xs) H1
def lstW (ta : TAx) : TEx := fun σ H E Q => ta σ H E fun xs H1 => xs.length ≤ sizeLine ∧ ∀ p, H1 p = none → Q (.ref p) (tupd H1 p (.lst xs))
/-- pairs of a dict display -/
def pairsW (f : Expr → TEx) : List (Option Expr) → List Expr → TSt → TH → TX → (List (TV × TV) → TH → Prop) → Prop
  | [], [] => fun _ H _ Q => Q [] H
  | some k :: ks, v :: vs => fun σ H E Q => f k σ H E fun x H1 => f v σ H1 E fun y H2 => pairsW f ks vs σ H2 E fun ps H3 => Q ((x, y) :: ps) H3
  | _, _ => fun _ _ _ _ => False
def okPairs : List (Option Expr) → List Expr → Bool
  | [], [] => true
  | some _ :: ks, _ :: vs => okPairs ks vs
  | _, _ => false
def keysT : List (TV × TV) → Option (List (Key × TV))
  | [] => some []
  | (k, v) :: r => match keyOf k, keysT r with
    | some k, some l => some ((k, v) :: l)
    | _, _ => none
def mergeT (kvs more : List (Key × TV)) : List (Key × TV) := more.foldl (fun acc kv => putT acc kv.1 kv.2) kvs
def dctW (f : Expr → TEx) (ks : List (Option Expr)) (vs : List Expr) : TEx := fun σ H E Q => ks.length ≤ 15 ∧ ∀ p, H p = none → pairsW f ks vs σ (tupd H p (.dct [])) E fun ps H2 => H2 p = some (.dct []) ∧ Need (keysT ps) fun l => l.length ≤ 15 ∧ Q (.ref p) (tupd H2 p (.dct (mergeT [] l)))
def andW (f : Expr → TEx) : List Expr → TEx
  | [] => tBad
  | [a] => f a
  | a :: b :: r => tAndT2 (f a) (andW f (b :: r))
def orW (f : Expr → TEx) : List Expr → TEx
  | [] => tBad
  | [a] => f a
  | a :: b :: r => tOrT2 (f a) (orW f (b :: r))
/-- a step: expressions -/
abbrev FE := SC → GE → Expr → TEx
abbrev FT := SC → GE → Expr → TTx
abbrev FI := SC → GE → Expr → Expr → TIx
abbrev FG := SC → GE → Expr → TGx
abbrev FS := SC → GE → Stmt → TSx
structure WP where
  e : FE
  t : FT
  i : FI
  g : FG
  s : FS
/-- a name whose slot is among these, or a tuple of such -/
def nmIn (N : List Str) (vs : List Nat) : Expr → Bool
  | .Name x _ => match idx N x with
    | some i => vs.contains i
    | none => false
  | _ => false
def tgIn (N : List Str) (vs : List Nat) : Expr → Bool
  | .Tuple ts _ _ => ts.all (nmIn N vs)
  | e => nmIn N vs e
def testsW (t : Expr → TTx) : List Expr → TTx
  | [] => fun _ H _ Q => Q true H
  | [c] => t c
  | _ => fun _ _ _ _ => False
def isSimpleIx : Expr → Bool
  | .Slice .. => false
  | .Tuple .. => false
  | .Starred .. => false
  | _ => true
/-- no call without arguments -/
def notCall0 : Expr → Bool
  | .Call (.Name _ _) [] [] _ => false
  | _ => true
def isiArgs (f : Str) (args : List Expr) : Option (Expr × Str) := if f = "isinstance" then (match args with
  | [a, .Name c _] => some (a, c)
  | _ => none) else none
def clsNames : List Expr → Option (List Str)
  | [] => some []
  | .Name c _ :: r => (clsNames r).map (c :: ·)
  | _ => none
/-- isinstance(a, (C, ..)) -/
def isiTup (f : Str) (args : List Expr) : Option (Expr × List Str) := if f = "isinstance" then (match args with
  | [a, .Tuple es _ _] => (clsNames es).map fun cs => (a, cs)
  | _ => none) else none
def stepE (w : WP) : FE := fun S G ex => match ex with
  | .Constant .none _ _ => tConT .non
  | .Constant (.bool b) _ _ => tConT (.bl b)
  | .Constant (.int i) _ _ => tConT (.int i)
  | .Constant (.str x) _ _ => tConT (.str x)
  | .Name x _ => nameW S G x
  | .BinOp a op b _ => tBin (bOp op) (w.e S G a) (w.e S G b)
  | .UnaryOp op a _ => fun σ H E Q => w.e S G a σ H E fun x H1 => uOp op x H1 Q
  | .BoolOp .And l _ => andW (w.e S G) l
  | .BoolOp .Or l _ => orW (w.e S G) l
  | .IfExp c a b _ => tIfE (w.t S G c) (w.e S G a) (w.e S G b)
  | .Compare a [op] [b] _ => fun σ H E Q => behindInMarks op b = false ∧ tBin (cOp op) (w.e S G a) (w.e S G b) σ H E Q
  | .Compare a [op, op'] [b, c] _ => fun σ H E Q => lastMarks [op, op'] [b, c] = false ∧ tChainT (cOp op) (cOp op') (w.e S G a) (w.e S G b) (w.e S G c) σ H E Q
  | .Call (.Name f _) args [] _ => match isiTup f args with
    | some (a, cs) => fun σ H E Q => (okName f && glB S.sc f && (idx S.N f).isNone) = true ∧ isStar a = false ∧ (cs ≠ [] ∧ cs.length ≤ 100) ∧ isoW S G (w.e S G a) cs σ H E Q
    | none => match isiArgs f args with
      | some (a, c) => fun σ H E Q => (okName f && glB S.sc f && (idx S.N f).isNone) = true ∧ isStar a = false ∧ (match strNm c with
        | some _ => S.calm = true ∧ isiW S (w.e S G a) c σ H E Q
        | none => isoW S G (w.e S G a) [c] σ H E Q)
      | none => fun σ H E Q => noStars args = true ∧ callW S G f (argsW (w.e S G) args) σ H E Q
  | .Call (.Attribute o m apos) args [] cpos => match bmOf m args.length with
    | some b => fun σ H E Q => (apos.endLine == cpos.line) = true ∧ args.length < 30 ∧ noStars args = true ∧ notCall0 o = true ∧ methW b (w.e S G o) (argsW (w.e S G) args) σ H E Q
    | none => tBad
  | .Attribute o n _ => fun σ H E Q => notCall0 o = true ∧ w.e S G o σ H E fun x H1 => attrOp G n x H1 Q
  | .Subscript a (.Slice lo hi none _) _ => slW (w.e S G a) (optW (w.e S G) lo) (optW (w.e S G) hi)
  | .Subscript a b _ => fun σ H E Q => isSimpleIx b = true ∧ tBin ixOp (w.e S G a) (w.e S G b) σ H E Q
  | .Tuple es _ _ => fun σ H E Q => noStars es = true ∧ tupW (argsW (w.e S G) es) σ H E Q
  | .List es _ => fun σ H E Q => noStars es = true ∧ lstW (argsW (w.e S G) es) σ H E Q
  | .Dict ks vs _ => fun σ H E Q => okPairs ks vs = true ∧ dctW (w.e S G) ks vs σ H E Q
  | .ListComp elt [⟨tg, it, ifs, 0⟩] scope _ => fun σ H E Q => (S.calm && blkC S.N S.sc scope (ownOf S.N scope) && tgIn S.N ((ownOf S.N scope).map (·.2)) tg) = true ∧ isSet it = false ∧
      tLcT (w.i S G tg it) (w.g (S.blk scope) G tg) (testsW (w.t (S.blk scope) G) ifs) (w.e (S.blk scope) G elt) ((ownOf S.N scope).map (·.2)) σ H E Q
  | _ => tBad
where isSet : Expr → Bool
  | .Set .. => true
  | _ => false
/-- a test -/
def andT (t : Expr → TTx) : List Expr → TTx
  | [] => fun _ _ _ _ => False
  | [a] => t a
  | a :: b :: r => fun σ H E Q => t a σ H E fun c H1 => if c = true then andT t (b :: r) σ H1 E Q else Q false H1
def orT (t : Expr → TTx) : List Expr → TTx
  | [] => fun _ _ _ _ => False
  | [a] => t a
  | a :: b :: r => fun σ H E Q => t a σ H E fun c H1 => if c = true then Q true H1 else orT t (b :: r) σ H1 E Q
def stepT (w : WP) : FT := fun S G ex => match ex with
  | .UnaryOp .Not a _ => fun σ H E Q => w.t S G a σ H E fun c H1 => Q (!c) H1
  | .BoolOp .And l _ => andT (w.t S G) l
  | .BoolOp .Or l _ => orT (w.t S G) l
  | .IfExp .. => fun _ _ _ _ => False
  | .Compare a [op] [b] _ => fun σ H E Q => behindInMarks op b = false ∧ tBin (cOp op) (w.e S G a) (w.e S G b) σ H E fun x H1 => ∃ k, x = .bl k ∧ Q k H1
  | .Compare a [op, op'] [b, c] _ => fun σ H E Q => lastMarks [op, op'] [b, c] = false ∧ tChainT (cOp op) (cOp op') (w.e S G a) (w.e S G b) (w.e S G c) σ H E fun x H1 => ∃ k, x = .bl k ∧ Q k H1
  | .Compare .. => fun _ _ _ _ => False
  | e => tTru (w.e S G e)
/-- what is walked -/
def stillL (a : Addr) (l : List TV) : TH → Prop := fun H => H a = some (.lst l)
def seqIt (x : TV) (H : TH) : Option TIt := match x with
  | .tup l => some ⟨l, fun _ => True⟩
  | .rol l => some ⟨l, fun _ => True⟩
  | .ref a => match H a with
    | some (.lst l) => some ⟨l, stillL a l⟩
    | _ => none
  | _ => none
def signsOf (z : Str) : List TV := z.cps.toList.map fun c => .str ⟨#[c]⟩
def intsFrom (lo : Int) (n : Nat) : List TV := (List.range n).map fun (k : Nat) => TV.int (lo + k)
/-- the kinds of what is walked -/
inductive IK where
  | seq | str
def plainI (te : TEx) : TIx := fun σ H E R => ∃ k : IK, match k with
  | .seq => te σ H E fun x H1 => Need (seqIt x H1) fun J => R J H1
  | .str => te σ H E fun x H1 => ∃ z, x = .str z ∧ R ⟨signsOf z, fun _ => True⟩ H1
def small62 (i : Int) : Prop := -(2 ^ 62) ≤ i ∧ i < 2 ^ 62
def enumFrom (l : List TV) (n : Nat) : List TV := (l.zipIdx n).map fun p => .tup [.int (p.2 : Nat), p.1]
def isTup : Expr → Bool
  | .Tuple .. => true
  | _ => false
def rng1 (xs : List TV) (R : TIt → Prop) : Prop := match xs with
  | [.int n] => small62 n ∧ R ⟨intsFrom 0 n.toNat, fun _ => True⟩
  | _ => False
def rng2 (xs : List TV) (R : TIt → Prop) : Prop := match xs with
  | [.int i, .int j] => small62 i ∧ small62 j ∧ R ⟨intsFrom i (j - i).toNat, fun _ => True⟩
  | _ => False
def enumW (xs : List TV) (H : TH) (R : TIt → Prop) : Prop := match xs with
  | [x] => Need (seqOf H x) fun p => p.1 = false ∧ Need (seqIt x H) fun J => R ⟨enumFrom J.items 0, J.still⟩
  | _ => False
def zipW (xs : List TV) (H : TH) (R : TIt → Prop) : Prop := match xs with
  | [x, y] => Need (seqOf H x) fun p => Need (seqOf H y) fun q => p.1 = q.1 ∧ Need (seqIt x H) fun J => Need (seqIt y H) fun J2 => R ⟨(J.items.zip J2.items).map fun p => .tup [p.1, p.2], fun T => J.still T ∧ J2.still T⟩
  | _ => False
def stepI (w : WP) : FI := fun S G tg ex => match ex with
  | .Call (.Name f _) [a] [] _ =>
    if f = "range" then (fun σ H E R => (glB S.sc f && noStars [a]) = true ∧ argsW (w.e S G) [a] σ H E fun xs H1 => rng1 xs fun J => R J H1)
    else if f = "enumerate" then (fun σ H E R => (glB S.sc f && isTup tg && noStars [a]) = true ∧ argsW (w.e S G) [a] σ H E fun xs H1 => enumW xs H1 fun J => R J H1)
    else plainI (w.e S G ex)
  | .Call (.Name f _) [a, b] [] _ =>
    if f = "range" then (fun σ H E R => (glB S.sc f && noStars [a, b]) = true ∧ argsW (w.e S G) [a, b] σ H E fun xs H1 => rng2 xs fun J => R J H1)
    else if f = "zip" then (fun σ H E R => (glB S.sc f && isTup tg && noStars [a, b]) = true ∧ argsW (w.e S G) [a, b] σ H E fun xs H1 => zipW xs H1 fun J => R J H1)
    else plainI (w.e S G ex)
  | _ => plainI (w.e S G ex)
/-- targets -/
def tgsW (g : Expr → TGx) : List Expr → List TV → TSt → TH → TX → (TSt → TH → Prop) → Prop
  | [], [], σ, H, _, Q => Q σ H
  | t :: ts, v :: vs, σ, H, E, Q => g t v σ H E fun σ1 H1 => tgsW g ts vs σ1 H1 E Q
  | _, _, _, _, _, _ => False
/-- o[i] = v -/
def setOp (o i v : TV) (H : TH) (Q : TH → Prop) : Prop := match o with
  | .ref a => (match H a with
    | some (.lst l) => ∃ k j, i = .int k ∧ ixN l.length k = some j ∧ Q (tupd H a (.lst (l.set j v)))
    | some (.dct kvs) => Need (keyOf i) fun k => kvs.length < sizeLine ∧ Q (tupd H a (.dct (putT kvs k v)))
    | _ => False)
  | _ => False
def stepG (w : WP) : FG := fun S G tg => match tg with
  | .Name x _ => match idx S.N x with
    | some i => fun v σ H E Q => locB S x = true ∧ Q (σ.set i (some v)) H
    | none => fun _ _ _ _ _ => False
  | .Tuple ts _ _ => fun v σ H E Q => noStars ts = true ∧ S.calm = true ∧ ∃ l, v = .tup l ∧ l.length = ts.length ∧ tgsW (w.g S G) ts l σ H E Q
  | .Subscript o i _ => fun v σ H E Q => isSimpleIx i = true ∧ S.calm = true ∧ w.e S G o σ H E fun ov H1 => w.e S G i σ H1 E fun iv H2 => setOp ov iv v H2 fun H3 => Q σ H3
  | _ => fun _ _ _ _ _ => False
/-! ### statements -/
def blockW (s : Stmt → TSx) : List Stmt → TSx
  | [] => fun D σ H => D.nx σ H
  | st :: r => fun D σ H => s st { D with nx := fun σ1 H1 => blockW s r D σ1 H1 } σ H
/-- the items walked, one by one -/
def forGo (still : TH → Prop) (g : TGx) (body : TSx) (D : TEnds) : List TV → TSt → TH → Prop
  | [], σ, H => still H ∧ D.nx σ H
  | x :: xs, σ, H => still H ∧ g x σ H (fun _ _ => False) fun σ1 H1 => body { D with nx := forGo still g body D xs, ct := forGo still g body D xs, bk := D.nx } σ1 H1
def whileGo (c : TTx) (body : TSx) (D : TEnds) : Nat → TSt → TH → Prop
  | 0, _, _ => False
  | n + 1, σ, H => c σ H (fun e H1 => D.ex e σ H1) fun b H1 => if b = true then body { D with nx := whileGo c body D n, ct := whileGo c body D n, bk := D.nx } σ H1 else D.nx σ H1
def isComp : Expr → Bool
  | .ListComp .. => true
  | .SetComp .. => true
  | .DictComp .. => true
  | _ => false
/-- name = [..]: whether the name is a plain local that the comprehension has no own one of -/
def swapOk (S : SC) (x : Str) (p : Pos) : Expr → Bool
  | .ListComp _ _ scope pos => (match S.sc.names.lookup x with | some .local => true | _ => false) && (p.line == pos.line) && !(scope.names.any fun (n, k) => n == x && (k == .local || k == .cell))
  | _ => false
/-- two plain locals told at once, of a display as long: they are stored without a tuple -/
def locNames (sc : Scope) (line : Nat) (ts : List Expr) : List Str := ts.filterMap fun
  | .Name id pos => if sc.names.lookup id == some .local && pos.line == line then some id else none
  | _ => none
def headLine (ts : List Expr) : Nat := (ts.head?.map (·.pos.line)).getD 0
/-- the swap of stores: none -/
def noPar (S : SC) (ts : List Expr) (v : Expr) : Bool := match v with
  | .Tuple vs _ _ => (!(ts.length == 2 || ts.length == 3) || vs.length != ts.length) || vs.any isStar || ((locNames S.sc (headLine ts) ts).length != ts.length)
  | _ => true
/-- the swap of stores of two names -/
def parOf (S : SC) (ts : List Expr) (v : Expr) : Option (Nat × Nat × List Expr) := match ts, v with
  | [.Name x p, .Name y q], .Tuple [a, b] _ _ => match idx S.N x, idx S.N y with
    | some i, some j => if (S.sc.names.lookup x == some .local && S.sc.names.lookup y == some .local && p.line == q.line && x != y && !isStar a && !isStar b && !([a, b].all (foldedForSure 8)) && !([a, b].all (constantsAlone 8)) && i != j) then some (i, j, [a, b]) else none
    | _, _ => none
  | _, _ => none
def SC.hot (S : SC) : SC := { S with calm := false }
/-- what is wanted behind an except suite: its name goes -/
def backT (oi : Option Nat) (D : TEnds) : TEnds := match oi with
  | none => ⟨D.nx, D.rt, D.bk, D.ct, fun _ _ _ => False⟩
  | some i => ⟨fun σ H => D.nx (σ.set i none) H, D.rt, fun σ H => D.bk (σ.set i none) H, fun σ H => D.ct (σ.set i none) H, fun _ _ _ => False⟩
/-- the slot of an except clause's name -/
def slotOf (S : SC) : Option Str → Option (Option Nat)
  | none => some none
  | some n => match S.sc.names.lookup n with
    | some .local => (idx S.N n).map some
    | _ => none
def hdOk (S : SC) (G : GE) : ExceptHandler → Bool
  | .ExceptHandler (some (.Name c _)) n (_ :: _) _ => clsOk S G c && (slotOf S n).isSome
  | _ => false
def setO : Option Nat → TSt → Addr → TSt
  | none, σ, _ => σ
  | some i, σ, a => σ.set i (some (.ref a))
/-- what the clauses do with an exception, one after the other -/
def catchW (w : WP) (S : SC) (G : GE) (D : TEnds) : List ExceptHandler → TExc → TSt → TH → Prop
  | [] => D.ex
  | .ExceptHandler (some (.Name c _)) n su _ :: r => fun e σ H => Need ((G.cls e.cls).bind fun ci => ci.rel.lookup c) fun b => if b = true then
      Need (slotOf S n) fun oi => ∀ a, H a = none → blockW (w.s S.hot G) su (backT oi D) (setO oi σ a) (tupd H a (.exc e.cls e.fs))
    else catchW w S G D r e σ H
  | _ => fun _ _ _ => False
def stepS (w : WP) : FS := fun S G st => match st with
  | .Raise (some (.Call (.Name c _) (a :: es) [] _)) none _ => fun D σ H => (okName c && glB S.sc c && (idx S.N c).isNone && S.calm && S.top && noStars (a :: es)) = true ∧
      Need (G.cls c) fun ci => argsW (w.e S G) (a :: es) σ H (fun x H1 => D.ex x σ H1) fun xs H1 => xs ≠ [] ∧ ci.xk xs H1 fun fs => D.ex ⟨c, fs⟩ σ H1
  | .Try b (h :: hs) [] [] _ => fun D σ H => (S.calm && S.top) = true ∧ (h :: hs).all (hdOk S G) = true ∧ blockW (w.s S G) b { D with ex := catchW w S G D (h :: hs) } σ H
  | .Pass _ => fun D σ H => D.nx σ H
  | .Break _ => fun D σ H => D.bk σ H
  | .Continue _ => fun D σ H => D.ct σ H
  | .Return none _ => fun D σ H => D.rt .non H
  | .Return (some e) _ => fun D σ H => w.e S G e σ H (fun x H1 => D.ex x σ H1) D.rt
  | .Expr e _ => fun D σ H => isComp e = false ∧ w.e S G e σ H (fun x H1 => D.ex x σ H1) fun _ H1 => D.nx σ H1
  | .If c a b _ => fun D σ H => w.t S G c σ H (fun x H1 => D.ex x σ H1) fun k H1 => if k = true then blockW (w.s S G) a D σ H1 else blockW (w.s S G) b D σ H1
  | .While c b [] _ => fun D σ H => ∃ n, whileGo (w.t S G c) (blockW (w.s S G) b) D n σ H
  | .For tg it b [] _ => fun D σ H => S.calm = true ∧ stepE.isSet it = false ∧ w.i S G tg it σ H (fun x H1 => D.ex x σ H1) fun J H1 => forGo J.still (w.g S G tg) (blockW (w.s S G) b) D J.items σ H1
  | .Assign [.Name x p] e _ => (match idx S.N x with
    | some i => fun D σ H => (locB S x && (!isComp e || swapOk S x p e)) = true ∧ w.e S G e σ H (fun x H1 => D.ex x σ H1) fun v H1 => D.nx (σ.set i (some v)) H1
    | none => fun _ _ _ => False)
  | .Assign [.Tuple ts k p] e _ => match parOf S ts e with
    | some (i, j, vs) => fun D σ H => S.calm = true ∧ argsW (w.e S G) vs σ H (fun x H1 => D.ex x σ H1) fun l H1 => ∃ a b, l = [a, b] ∧ D.nx ((σ.set i (some a)).set j (some b)) H1
    | none => fun D σ H => (noPar S ts e && !isComp e) = true ∧ w.e S G e σ H (fun x H1 => D.ex x σ H1) fun v H1 => w.g S G (.Tuple ts k p) v σ H1 (fun _ _ => False) D.nx
  | .Assign [.Subscript o i p] e _ => fun D σ H => (!isComp e) = true ∧ w.e S G e σ H (fun x H1 => D.ex x σ H1) fun v H1 => w.g S G (.Subscript o i p) v σ H1 (fun _ _ => False) D.nx
  | .AugAssign (.Name x _) op e _ => (match idx S.N x with
    | some i => fun D σ H => (locB S x && augOk op) = true ∧ ∃ v, σ[i]? = some (some v) ∧ w.e S G e σ H (fun x H1 => D.ex x σ H1) fun y H1 => augOp op v y H1 fun z H2 => D.nx (σ.set i (some z)) H2
    | none => fun _ _ _ => False)
  | _ => fun _ _ _ => False
where
  augOk : Operator → Bool
    | .Add => true
    | .Sub => true
    | _ => false
  augOp (op : Operator) (x y : TV) (H : TH) (Q : TQ) : Prop := match op, x, y with
    | .Add, .int i, .int j => Q (.int (i + j)) H
    | .Sub, .int i, .int j => Q (.int (i - j)) H
    | _, _, _ => False
def WP.bot : WP := ⟨fun _ _ _ _ _ _ _ => False, fun _ _ _ _ _ _ _ => False, fun _ _ _ _ _ _ _ _ => False, fun _ _ _ _ _ _ _ _ => False, fun _ _ _ _ _ _ => False⟩
def wp : Nat → WP
  | 0 => .bot
  | n + 1 => ⟨stepE (wp n), stepT (wp n), stepI (wp n), stepG (wp n), stepS (wp n)⟩
end TL


set_option Elab.async false
set_option linter.all false
set_option maxRecDepth 100000
/-! TL5b: exception classes: what the written part says of them; isinstance by them. -/
namespace TL
open PySem PySem.Spec L2
/-- a class's name: one of the text's, or ValueError -/
def ClsNm (mg : Str → Option Value) (x : Str) (u : Value) : Prop := (mg x = some u ∧ ∃ C, u = .ref C) ∨ (mg x = none ∧ x = "ValueError" ∧ u = .type "ValueError")
theorem ClsNm.one {mg : Str → Option Value} {x : Str} {u v : Value} (a : ClsNm mg x u) (b : ClsNm mg x v) : u = v := by
  rcases a with ⟨a1, _⟩ | ⟨a1, _, a2⟩
  · rcases b with ⟨b1, _⟩ | ⟨b1, _, _⟩
    · rw [a1] at b1; exact Option.some.inj b1
    · rw [a1] at b1; cases b1
  · rcases b with ⟨b1, _⟩ | ⟨b1, _, b2⟩
    · rw [a1] at b1; cases b1
    · rw [a2, b2]
structure ClsX (K : PySem.W.Frag) (C : Addr) : Prop where
  hga : PySem.W.findIn K (.ref C) "__getattribute__" = some (some (.builtin "BaseException.__getattribute__"))
  hgt : PySem.W.findIn K (.ref C) "__getattr__" = some none
  hsub : PySem.W.subIn K (.ref C) (.type "BaseException") = some true
  hd : PySem.W.hasDictIn K C = true
  ha : PySem.W.findIn K (.ref C) "__class__" = some (some (.builtin "object.__class__"))
  hn : PySem.W.specialIn K (.builtin "object.__class__") "__get__" = some (some (.builtin "getset_descriptor.__get__"))
  htk : PySem.W.takesIn K (.builtin "object.__class__") = some true
  hm : PySem.W.mroIn K C (.type "object") = some true
structure ClsF (K : PySem.W.Frag) (mg : Str → Option Value) (C : Addr) (rel : List (Str × Bool)) (fld : List Str) : Prop where
  full : rel ≠ [] ∨ fld ≠ [] → ClsX K C
  rel : ∀ p ∈ rel, ∃ u, ClsNm mg p.1 u ∧ PySem.W.kitOne K (.ref C) u = some p.2 ∧ PySem.W.exmOne K (.ref C) u = some p.2
  ty : ∀ t ∈ (["int", "bool", "str", "tuple", "list", "dict", "NoneType"] : List String), PySem.W.kitOne K (.type t) (.ref C) = some false
  fld : ∀ f ∈ fld, PySem.W.findIn K (.ref C) f = some none
theorem clsIn_some {K : PySem.W.Frag} {C : Addr} (h : PySem.W.hasDictIn K C = true) : (PySem.W.clsIn K C).isSome = true := by
  unfold PySem.W.hasDictIn at h
  cases q : PySem.W.clsIn K C with
  | none => rw [q] at h; cases h
  | some cd => rfl
theorem kit_ve : ∀ t ∈ (["int", "bool", "str", "tuple", "list", "dict", "NoneType"] : List String), kitB t "ValueError" = some false := by decide +kernel
/-- what G says of the classes is so -/
def ClsG (K : PySem.W.Frag) (mg : Str → Option Value) (G : GE) : Prop := ∀ c ci, G.cls c = some ci → ∃ C, mg c = some (.ref C) ∧ ClsF K mg C ci.rel ci.fld
theorem exR_at {P : Program} {w : World} {H : Hp} {h : Heap} {a : Addr} {cls : Value} {d : Option Addr} (hok : HOk P w H h) (e : H a = some (ExR cls d a)) : ∃ (oe : Obj) (vs : Array Value), h.get? a = some oe ∧ Zc cls d oe ∧ oe.data = .fields vs := by
  have x : ObjOk P w H h a (.ext fun h => ∃ (oe : Obj) (vs : Array Value), h.get? a = some oe ∧ Zc cls d oe ∧ oe.data = .fields vs) := hok a _ e
  exact x.1
theorem exR_ok {P : Program} {w : World} {H : Hp} {h : Heap} {a : Addr} {cls : Value} {d : Option Addr} {oe : Obj} {vs : Array Value} (e : h.get? a = some oe) (z : Zc cls d oe) (v : oe.data = .fields vs) : ObjOk P w H h a (ExR cls d a) :=
  ⟨⟨oe, vs, e, z, v⟩, ⟨oe, e⟩, fun _ _ ⟨o, u, q, r⟩ k => ⟨o, u, k o q, r⟩⟩
section
variable {X : Cx} {pins : List (Addr × Obj)} {σ : L2.St} {H : Hp} {s : Shared} {T : TH} {G : GE}
/-- an exception that is tracked: where its object, its dict lie -/
theorem exc_inst (I : Inv X pins σ H s) {a C : Addr} {d : Option Addr} {fs : List (Str × TV)} (e : H a = some (ExR (.ref C) d a)) (x : XFs X.K H d fs) :
    ∃ ox od, PySem.W.InstAt s.heap a ox C od ∧ ∀ f v, fs.lookup f = some v → ∃ o v' u, od = some o ∧ PySem.W.lookIn f o = some (some u) ∧ RelV v' u ∧ RT X.K H v v' := by
  obtain ⟨oe, vs, e1, z, e2⟩ := exR_at I.hok e
  have nc : PySem.W.notCls oe = true := by unfold PySem.W.notCls; rw [e2]
  rcases x with ⟨rfl, rfl⟩ | ⟨d0, ws, rfl, e3, r⟩
  · refine ⟨oe, none, ⟨e1, z.1, nc, ?_⟩, fun f v q => by cases q⟩
    rw [z.2]
    trivial
  · obtain ⟨mA, hns, hr⟩ := (show ObjOk X.prog X.w H s.heap d0 (.xd ws) from I.hok d0 _ e3)
    obtain ⟨od, ho, hl⟩ := lookIn_ns hns
    refine ⟨oe, some od, ⟨e1, z.1, nc, ?_⟩, fun f v q => ?_⟩
    · rw [z.2]; exact ho
    · have lk : ∀ {l : List (Str × TV)} {m : List (Str × V)}, RKs X.K H l m → l.lookup f = some v → ∃ v', m.lookup f = some v' ∧ RT X.K H v v' := by
        intro l m r
        induction r with
        | nil => intro q; cases q
        | @cons k x y xs ys a b ih =>
          intro q
          simp only [List.lookup_cons] at q ⊢
          split at q
          · rename_i hk
            cases q
            exact ⟨y, rfl, a⟩
          · exact ih q
      obtain ⟨v', e4, rt⟩ := lk r q
      obtain ⟨u, hu, ru⟩ := RelO.some_of (v := v') (o := mA f) (by rw [← e4]; exact hr f)
      exact ⟨od, v', u, rfl, by rw [hl, hu], ru, rt⟩
/-- what isinstance asks of a thing, told by any class -/
theorem kit_thing (hG : ClsG X.K X.mg G) (hv : X.mg "ValueError" = none) (I : Inv X pins σ H s) {x : TV} {v : V} {u : Value} (rv : RelV v u) (rt : RT X.K H x v) (rh : RH X.K X.mg T H) {c0 : Str} {b0 : Bool} (h0 : isoOf G T x c0 = some b0) :
    ∃ (t : Value) (P : Heap → Prop), PySem.W.KitX X.K u t P ∧ P s.heap ∧ u ≠ .builtin "__main__.__loader__#opaque" ∧ ∀ c b w, isoOf G T x c = some b → ((∃ ci, G.cls c = some ci) ∨ c = "ValueError") → ClsNm X.mg c w → PySem.W.kitOne X.K t w = some b := by
  cases q : excOf T x with
  | some k =>
    have ex : ∃ a fs, x = .ref a ∧ T a = some (.exc k fs) := by
      unfold excOf at q
      split at q
      · rename_i a
        split at q
        · rename_i k' fs e
          cases q
          exact ⟨a, fs, rfl, e⟩
        · cases q
      · cases q
    obtain ⟨a, fs, rfl, ea⟩ := ex
    obtain ⟨C, d, m, eh, xf⟩ := rh a _ ea
    cases rt
    cases (show u = Value.ref a from rv)
    unfold isoOf at h0
    rw [q] at h0
    obtain ⟨ci, eci, hne⟩ := Option.bind_eq_some_iff.mp h0
    obtain ⟨C', m', F⟩ := hG k ci eci
    rw [m] at m'
    cases m'
    have U := F.full (.inl fun z => by rw [z] at hne; cases hne)
    obtain ⟨ox, od, J, _⟩ := exc_inst I eh xf
    refine ⟨.ref C, _, PySem.W.kitx_exc (clsIn_some U.hd) U.hga U.hgt U.hsub U.ha U.hn U.htk U.hm, J, (fun z => by cases z), fun c b w hb _ hw => ?_⟩
    unfold isoOf at hb
    rw [q] at hb
    obtain ⟨ci', eci', hl⟩ := Option.bind_eq_some_iff.mp hb
    rw [eci] at eci'
    cases eci'
    obtain ⟨u, hu, k1, _⟩ := F.rel _ (PySem.mem_of_lookup hl)
    rw [hw.one hu]
    exact k1
  | none =>
    unfold isoOf at h0
    rw [q] at h0
    simp only at h0
    split at h0
    · rename_i t et
      obtain ⟨n, en, hn, ty⟩ := ty_low rt rh et
      obtain ⟨P, Z, p, hx⟩ := kit_of I rv ty
      refine ⟨_, P, Z, p, hx, fun c b w hb hc hw => ?_⟩
      unfold isoOf at hb
      rw [q] at hb
      simp only [et] at hb
      cases hb
      rcases hw with ⟨m, C, rfl⟩ | ⟨_, _, rfl⟩
      · rcases hc with ⟨ci, e⟩ | e
        · obtain ⟨C', m', F⟩ := hG c ci e
          rw [m] at m'
          cases m'
          exact F.ty n hn
        · rw [e, hv] at m; cases m
      · exact kit_ty (kit_ve n hn)
    · cases h0
end
/-! ### facts of the classes, from what the head tells -/
section
variable {K : PySem.W.Frag} {mg : Str → Option Value}
theorem kitOne_of {t : Value} {C : Addr} {b : Bool} (i : PySem.W.isClsIn K C = true) (ty : PySem.W.typeIn K (.ref C) = some (.type "type")) (s : PySem.W.subIn K t (.ref C) = some b) (h : (t == .ref C) = true → b = true) : PySem.W.kitOne K t (.ref C) = some b := by
  unfold PySem.W.kitOne
  by_cases e : (t == .ref C) = true
  · rw [if_pos e, h e]
  · rw [if_neg e]
    unfold PySem.W.kitCls
    have z : ((PySem.W.clsIn K C).isSome && PySem.W.typeIn K (.ref C) == some (.type "type")) = true := by
      have i' : (PySem.W.clsIn K C).isSome = true := i
      rw [i', ty]
      rfl
    simp only [z, if_true]
    exact s
theorem exmOne_of {t : Value} {C : Addr} {b : Bool} (bs : PySem.W.subIn K (.ref C) (.type "BaseException") = some true) (i : PySem.W.isClsIn K C = true) (ty : PySem.W.typeIn K (.ref C) = some (.type "type")) (s : PySem.W.subIn K t (.ref C) = some b) : PySem.W.exmOne K t (.ref C) = some b := by
  have e1 : (PySem.W.subIn K (.ref C) (.type "BaseException") == some true) = true := by rw [bs] <;> rfl
  have z : ((PySem.W.clsIn K C).isSome && PySem.W.typeIn K (.ref C) == some (.type "type")) = true := by
    have i' : (PySem.W.clsIn K C).isSome = true := i
    rw [i', ty]
    rfl
  unfold PySem.W.exmOne
  rw [if_pos e1]
  unfold PySem.W.kitCls
  simp only [z, if_true]
  exact s
/-- a class C of another one D -/
theorem rel_own {x : Str} {C D : Addr} {b : Bool} (m : mg x = some (.ref D)) (bs : PySem.W.subIn K (.ref D) (.type "BaseException") = some true) (i : PySem.W.isClsIn K D = true) (ty : PySem.W.typeIn K (.ref D) = some (.type "type")) (self : PySem.W.subIn K (.ref C) (.ref C) = some true) (s : PySem.W.subIn K (.ref C) (.ref D) = some b) :
    ∃ u, ClsNm mg x u ∧ PySem.W.kitOne K (.ref C) u = some b ∧ PySem.W.exmOne K (.ref C) u = some b :=
  ⟨.ref D, .inl ⟨m, D, rfl⟩, kitOne_of i ty s (fun e => by
    have e' : C = D := Value.ref.inj (beq_iff_eq.mp e)
    subst e'
    rw [self] at s
    exact (Option.some.inj s).symm), exmOne_of bs i ty s⟩
theorem rel_ve {C : Addr} (hv : mg "ValueError" = none) (s : PySem.W.subIn K (.ref C) (.type "ValueError") = some true) : ∃ u, ClsNm mg "ValueError" u ∧ PySem.W.kitOne K (.ref C) u = some true ∧ PySem.W.exmOne K (.ref C) u = some true := by
  have km : PySem.W.kitMeta "ValueError" = true := by decide +kernel
  have kc : PySem.W.kitCls K (.ref C) (.type "ValueError") = some true := by
    unfold PySem.W.kitCls
    simp only [km, if_true]
    exact s
  refine ⟨.type "ValueError", .inr ⟨hv, rfl, rfl⟩, ?_, ?_⟩
  · unfold PySem.W.kitOne
    rw [if_neg (by intro z; cases (beq_iff_eq.mp z))]
    exact kc
  · unfold PySem.W.exmOne
    have e1 : (PySem.W.subIn K (.type "ValueError") (.type "BaseException") == some true) = true := by
      show ((PySem.fastBuiltinMro "ValueError").map (·.contains (Value.type "BaseException")) == some true) = true
      decide +kernel
    rw [if_pos e1]
    exact kc
theorem base_own {C : Addr} (i : PySem.W.isClsIn K C = true) (ty : PySem.W.typeIn K (.ref C) = some (.type "type")) : ∀ t ∈ (["int", "bool", "str", "tuple", "list", "dict", "NoneType"] : List String), PySem.W.kitOne K (.type t) (.ref C) = some false := by
  intro t ht
  refine kitOne_of i ty ?_ fun e => by cases (beq_iff_eq.mp e)
  simp only [List.mem_cons, List.not_mem_nil, or_false] at ht
  rcases ht with rfl | rfl | rfl | rfl | rfl | rfl | rfl <;> kernel_rfl
end
end TL


set_option Elab.async false
set_option linter.all false
set_option maxRecDepth 100000
/-! TL6a: calls of defs where no repr is under way; the context; lifting. -/
namespace TL
open PySem PySem.Spec L2

/-- a def keeps its promise, called where nothing is being shown -/
structure FnG (P : Program) (w : World) (K : PySem.W.Frag) (mg : Str → Option Value) (base : Heap) (k : Nat) (f : Addr) (fd : FuncData) (ps : List Str) (sp : Sp) : Prop where
  len : ∀ vs H Q E, sp vs H Q E → vs.length = ps.length
  run : ∀ (A : Around) (outer : List Env) (s : Shared) (H : Hp) (args : Args) (us : List Value) (vs : List V) (Q : VK) (E : XK), Room k A → A.guards = some [] → Env0 P w K mg base A outer s H → BindsTo s fd args (ps.zip us) → Vals vs us → sp vs H Q E →
    codeAny (model P w) A (.call (.ref f) args) (CR (L2.CX P w) outer P w H s Q E) s
theorem FnG.mono {P : Program} {w : World} {K : PySem.W.Frag} {mg : Str → Option Value} {base : Heap} {j k : Nat} {f : Addr} {fd : FuncData} {ps : List Str} {sp : Sp} (F : FnG P w K mg base j f fd ps sp) (h : j ≤ k) : FnG P w K mg base k f fd ps sp :=
  ⟨F.len, fun A outer s H args us vs Q E hr => F.run A outer s H args us vs Q E (hr.mono h)⟩
/-- a promise over trees, lowered -/
def lowSp (K : PySem.W.Frag) (mg : Str → Option Value) (n : Nat) (sp : TSp) : Sp := fun vs' H' Q' E' => ∃ vs H E Q, vs.length = n ∧ RTs K H' vs vs' ∧ RH K mg H H' ∧ sp vs H E Q ∧ KQ K mg H H' Q Q' ∧ KX K mg H H' E E'
/-- a name of the module stands for a def that keeps a promise -/
def FnV (X : Cx) (x : Str) (sp : TSp) : Prop := ∃ k f fd ps, X.mg x = some (.ref f) ∧ PySem.W.keepIn X.K (.ref f) = true ∧ FnG X.prog X.w X.K X.mg X.base k f fd ps (lowSp X.K X.mg ps.length sp) ∧ Binds X.K fd ps [] ∧ Room k X.A ∧
  ∀ vs H E Q, sp vs H E Q → vs.length = ps.length
def ConV (X : Cx) (x : Str) (v : TV) : Prop := ∃ u v', X.mg x = some u ∧ RelV v' u ∧ ∀ H, RT X.K H v v'
/-- an exception class's making keeps its promise, wherever it is called -/
structure XkA (P : Program) (w : World) (K : PySem.W.Frag) (mg : Str → Option Value) (base : Heap) (k : Nat) (c : Str) (xk : XSp) : Prop where
  ex : ∃ C, mg c = some (.ref C) ∧ PySem.W.keepIn K (.ref C) = true ∧ PySem.W.subIn K (.ref C) (.type "BaseException") = some true ∧ PySem.W.typeIn K (.ref C) = some (.type "type") ∧
    ∀ (X : Cx) (pins : List (Addr × Obj)) (σ : L2.St) (H : Hp) (s : Shared) (us : List Value) (vs : List V) (xs : List TV) (T : TH) (Q : List (Str × TV) → Prop) (E : Value → Shared → Prop),
      X.prog = P → X.w = w → X.K = K → X.mg = mg → X.base = base → X.ex = [] → Room k X.A → X.A.guards = some [] → Inv X pins σ H s → Vals vs us → RTs K H xs vs → RH K mg T H → xk xs T Q →
      wpAny (model P w) X.A (call (.ref C) us) (MkP X pins σ (fun cls d H' => cls = .ref C ∧ ∃ fs, Q fs ∧ XFs K H' d fs ∧ RH K mg T H' ∧ Stp T H T H')) E s
theorem XkA.mono {P : Program} {w : World} {K : PySem.W.Frag} {mg : Str → Option Value} {base : Heap} {j k : Nat} {c : Str} {xk : XSp} (F : XkA P w K mg base j c xk) (h : j ≤ k) : XkA P w K mg base k c xk := by
  obtain ⟨C, a, b, c, d, e⟩ := F.ex
  exact ⟨C, a, b, c, d, fun X pins σ H s us vs xs T Q E h1 h2 h3 h4 h5 h5' h6 => e X pins σ H s us vs xs T Q E h1 h2 h3 h4 h5 h5' (h6.mono h)⟩
structure Ok (X : Cx) (S : SC) (G : GE) (W : WX) : Prop where
  n : X.N = S.N
  nd : S.N.Nodup
  sc : X.env.scope = S.sc
  kd : X.env.scope.kind = .function
  fn : X.fn = S.fn
  calm : S.calm = true → X.calm = true
  grd : S.calm = true → X.A.guards = some []
  tk : Takes X W
  po : PassesOwn (model X.prog X.w) X.A X.env X.xe
  blt : ∀ x ∈ bNames, X.mg x = none
  fns : S.calm = true → ∀ x sp, G.fn x = some sp → FnV X x sp
  con : ∀ x v, G.con x = some v → ConV X x v
  un : X.A.units + 100 < cLine
  cls : ClsG X.K X.mg G
  xk : S.calm = true → ∀ c ci, G.cls c = some ci → ∃ k, XkA X.prog X.w X.K X.mg X.base k c ci.xk ∧ Room k X.A
  own : S.top = true → X.ex = [] ∧ X.stack = X.env :: X.outer ∧ X.env.frame = some X.env.locals
section
variable {X : Cx} {k : Nat} {f : Addr} {fd : FuncData} {ps : List Str} {sp : Sp} {E : L2.St → XK}
theorem run_g {pins : List (Addr × Obj)} {σ : L2.St} {H : Hp} {s : Shared} {Q : VK} {us : List Value} {vs : List V} (F : FnG X.prog X.w X.K X.mg X.base k f fd ps sp) (hr : Room k X.A) (hgd : X.A.guards = some []) (hb : Binds X.K fd ps []) (hx : PassesAt (L2.CX X.prog X.w) X σ (E σ))
    (I : Inv X pins σ H s) (r : Vals vs us) (h : sp vs H Q (E σ)) : wpAny (model X.prog X.w) X.A (call (.ref f) us) (EP X pins σ Q) X.xe s := by
  have b := hb s us I.kIn (by rw [List.append_nil, ← r.length]; exact F.len _ _ _ _ h)
  simp only [List.append_nil] at b
  apply wpAny_call
  apply codeAny_mono (F.run X.A X.stack s H ⟨us, []⟩ us vs Q (E σ) hr hgd I.env0 b r h)
  intro res s' hq
  match res, hq with
  | .error e, hq => exact hx pins H s e s' I hq
  | .ok (.ret u), hq => exact I.after hq
  | .ok .next, hq => exact hq.elim
  | .ok .brk, hq => exact hq.elim
  | .ok .cont, hq => exact hq.elim
theorem starOne {e : Expr} {es : List Expr} {env : Env} (h : isStar e = false) : starEach (e :: es) env = (false, eval e env) :: starEach es env := by
  cases e <;> first | rfl | (exact absurd h (by simp [isStar]))
theorem starNone : ∀ {es : List Expr} {env : Env} {pos : Pos}, (∀ e ∈ es, isStar e = false) → (backTo pos (starEach es env)).any (·.1) = false := by
  intro es env pos h
  have q : ∀ es : List Expr, (∀ e ∈ es, isStar e = false) → (starEach es env).any (·.1) = false := by
    intro es
    induction es with
    | nil => intro _; rfl
    | cons e es ih =>
      intro h
      rw [starOne (h e List.mem_cons_self), List.any_cons, ih fun e' he => h e' (List.mem_cons_of_mem _ he)]
      rfl
  have := q es h
  cases es with
  | nil => rfl
  | cons e r =>
    rw [starOne (h e List.mem_cons_self)] at this ⊢
    first
      | exact this
      | (simp only [backTo]; simpa using this)
end
end TL


set_option Elab.async false
set_option linter.all false
set_option maxRecDepth 100000
/-! TL6b: expressions: each construct's rule. -/
namespace TL
open PySem PySem.Spec L2
section
variable {X : Cx} {W : WX} {S : SC} {G : GE}
theorem idx_some {N : List Str} {x : Str} {i : Nat} (h : idx N x = some i) : N[i]? = some x := by
  unfold idx at h
  have := List.findIdx?_eq_some_iff_getElem.mp h
  obtain ⟨hi, hx, _⟩ := this
  rw [List.getElem?_eq_getElem hi]
  exact congrArg some (beq_iff_eq.mp hx)
theorem idx_none {N : List Str} {x : Str} (h : idx N x = none) : x ∉ N := by
  unfold idx at h
  intro hm
  have := List.findIdx?_eq_none_iff.mp h x hm
  simp at this
theorem vis_of {sc : Scope} {x : Str} (h : visB sc x = true) : Vis sc x := by
  unfold visB at h
  split at h <;> first | exact .inl ‹_› | exact .inr (.inl ‹_›) | exact .inr (.inr ‹_›) | cases h
theorem ok_name {x : Str} (h : okName x = true) : (x == ("__debug__" : Str)) = false ∧ (x == ("__classdict__" : Str)) = false ∧ x ≠ "__name__" := by
  unfold okName at h
  simp only [Bool.and_eq_true, bne_iff_ne, ne_eq] at h
  exact ⟨beq_eq_false_iff_ne.mpr h.1.1, beq_eq_false_iff_ne.mpr h.1.2, h.2⟩
theorem gl_of {sc : Scope} {x : Str} (h : glB sc x = true) : sc.names.lookup x = some .globalImplicit := by
  unfold glB at h
  split at h
  · assumption
  · cases h
theorem Ok.gl (ok : Ok X S G W) {x : Str} (h : glB S.sc x = true) : Gl X x := by
  show X.env.scope.names.lookup x = _
  rw [ok.sc]
  exact gl_of h
/-! lifting of the general forms -/
theorem up_con {e : Expr} {v : TV} {v' : V} (h : PE X e (tC v')) (r : ∀ H, RT X.K H v v') : PE X e (upE X.K X.mg W (tConT v)) :=
  pe_imp h fun σ' H' Q' ⟨σ, H, E, Q, rs, rh, q, kq, kx⟩ => kq _ _ _ _ q (r _) rh (.refl _)
theorem up_var {e : Expr} {i : Nat} (h : PE X e (tVar i)) : PE X e (upE X.K X.mg W (tVarT i)) :=
  pe_imp h fun σ' H' Q' ⟨σ, H, E, Q, rs, rh, ⟨v, e, q⟩, kq, kx⟩ => by
    obtain ⟨v', e', r⟩ := rs.2 i v e
    exact ⟨v', e', kq _ _ _ _ q r rh (.refl _)⟩
theorem up_guard {e : Expr} {c : Prop} [Decidable c] {t : TEx} (h : c → PE X e (upE X.K X.mg W t)) : PE X e (upE X.K X.mg W (fun σ H E Q => c ∧ t σ H E Q)) := by
  by_cases hc : c
  · exact pe_imp (h hc) fun σ' H' Q' ⟨σ, H, E, Q, rs, rh, q, kq, kx⟩ => ⟨σ, H, E, Q, rs, rh, q.2, kq, kx⟩
  · exact pe_false fun σ' H' Q' ⟨σ, H, E, Q, rs, rh, q, kq, kx⟩ => hc q.1
theorem up_bad {e : Expr} {t : TEx} (h : ∀ σ H E Q, ¬ t σ H E Q) : PE X e (upE X.K X.mg W t) := pe_false fun σ' H' Q' ⟨σ, H, E, Q, rs, rh, q, kq, kx⟩ => h _ _ _ _ q
/-- one value in, by a rule over trees -/
theorem up_one {e : Expr} {ta : TEx} {f : TV → TH → TQ → Prop} {r : V → Hp → VK → Prop} (h : PE X e (tUn r (upE X.K X.mg W ta)))
    (hr : ∀ x x' H H' Q Q', RT X.K H' x x' → RH X.K X.mg H H' → f x H Q → KQ X.K X.mg H H' Q Q' → r x' H' Q') : PE X e (upE X.K X.mg W (fun σ H E Q => ta σ H E fun x H1 => f x H1 Q)) :=
  pe_imp h fun σ' H' Q' ⟨σ, H, E, Q, rs, rh, q, kq, kx⟩ => ⟨σ, H, E, _, rs, rh, q, fun x T v H1 hq rt rh1 k1 => hr x v T H1 Q Q' rt rh1 hq (kq.on k1), kx⟩
/-- two values in -/
theorem up_two {e : Expr} {ta tb : TEx} {f : TV → TV → TH → TQ → Prop} (h : PE X e (tOp (LOp X.K X.mg f) (upE X.K X.mg W ta) (upE X.K X.mg W tb))) : PE X e (upE X.K X.mg W (tBin f ta tb)) :=
  pe_imp h fun σ' H' Q' ⟨σ, H, E, Q, rs, rh, q, kq, kx⟩ => ⟨σ, H, E, _, rs, rh, q, fun x T v H1 hq rt rh1 k1 =>
    ⟨σ, T, E, _, rs.keep k1.k, rh1, hq, fun y T2 u H2 hq2 rt2 rh2 k2 => ⟨T2, x, y, Q, rt.keep k2.k, rt2, rh2, hq2, kq.on (k1.trans k2)⟩, kx.on k1⟩, kx⟩
theorem up_two' {e : Expr} {ta tb : TEx} {f : TV → TV → TH → TQ → Prop} {r : R2} (h : PE X e (tOp r (upE X.K X.mg W ta) (upE X.K X.mg W tb))) (hr : ∀ x y H Q, LOp X.K X.mg f x y H Q → r x y H Q) : PE X e (upE X.K X.mg W (tBin f ta tb)) :=
  up_two (pe_imp h fun σ' H' Q' q => by
    obtain ⟨σ, H, E, Q, rs, rh, q, kq, kx⟩ := q
    exact ⟨σ, H, E, Q, rs, rh, q, fun x T v H1 hq rt rh1 k1 => by
      obtain ⟨σ2, H2, E2, Q2, rs2, rh2, q2, kq2, kx2⟩ := kq x T v H1 hq rt rh1 k1
      exact ⟨σ2, H2, E2, Q2, rs2, rh2, q2, fun y T2 u H3 hq2 rt2 rh3 k2 => hr _ _ _ _ (kq2 y T2 u H3 hq2 rt2 rh3 k2), kx2⟩, kx⟩)
theorem p_name (ok : Ok X S G W) (x : Str) (pos : Pos) : PE X (.Name x pos) (upE X.K X.mg W (nameW S G x)) := by
  unfold nameW
  split
  · rename_i i hi
    refine up_guard fun h => up_var ?_
    simp only [Bool.and_eq_true] at h
    obtain ⟨h1, h2, _⟩ := ok_name h.1
    exact pe_var (by rw [ok.n]; exact idx_some hi) (by rw [ok.sc]; exact vis_of h.2) h1 h2
  · refine up_guard fun h => ?_
    simp only [Bool.and_eq_true] at h
    obtain ⟨h1, h2, h3⟩ := ok_name h.1
    cases hc : G.con x with
    | none => exact up_bad fun σ H E Q q => by obtain ⟨v, e, _⟩ := q; cases e
    | some v =>
      obtain ⟨u, v', e, r, rt⟩ := ok.con x v hc
      refine pe_imp (pe_glob (ok.gl h.2) e r h1) fun σ' H' Q' ⟨σ, H, E, Q, rs, rh, ⟨w, ew, q⟩, kq, kx⟩ => ?_
      cases ew
      exact kq _ _ _ _ q (rt _) rh (.refl _)
theorem p_bin {a b : Expr} {ta tb : TEx} {op : Operator} {pos : Pos} (ha : PE X a (upE X.K X.mg W ta)) (hb : PE X b (upE X.K X.mg W tb)) : PE X (.BinOp a op b pos) (upE X.K X.mg W (tBin (bOp op) ta tb)) := up_two (pe_op (op_b op) ha hb)
theorem p_un (un : X.A.units + 100 < cLine) {a : Expr} {ta : TEx} {op : UnaryOp} {pos : Pos} (ha : PE X a (upE X.K X.mg W ta)) : PE X (.UnaryOp op a pos) (upE X.K X.mg W (fun σ H E Q => ta σ H E fun x H1 => uOp op x H1 Q)) := by
  by_cases h : op = .Not
  · subst h
    refine up_one (r := fun x H1 Q => ∃ k, TruV X.K x H1 k ∧ Q (.bl (!k)) H1) (pe_notT ha) fun x x' H H' Q Q' rt rh q kq => ?_
    cases x <;> (obtain ⟨b, e, q⟩ := q; exact ⟨b, tru_low rt rh e, kq _ _ _ _ q (.bl _) rh (.refl _)⟩)
  · exact up_one (r := LUn X.K X.mg (uOp op)) (pe_un (un_u op h) ha) fun x x' H H' Q Q' rt rh q kq => ⟨H, x, Q, rt, rh, q, kq⟩
theorem p_cmp (un : X.A.units + 100 < cLine) {a b : Expr} {ta tb : TEx} {op : CmpOp} {pos : Pos} (ha : PE X a (upE X.K X.mg W ta)) (hb : PE X b (upE X.K X.mg W tb)) :
    PE X (.Compare a [op] [b] pos) (upE X.K X.mg W (fun σ H E Q => behindInMarks op b = false ∧ tBin (cOp op) ta tb σ H E Q)) := up_guard fun h => up_two (pe_cmpR (op_c (by omega) op) ha hb h)
theorem p_chain (un : X.A.units + 100 < cLine) {a b c : Expr} {ta tb tc : TEx} {op op' : CmpOp} {pos : Pos} (ha : PE X a (upE X.K X.mg W ta)) (hb : PE X b (upE X.K X.mg W tb)) (hc : PE X c (upE X.K X.mg W tc)) :
    PE X (.Compare a [op, op'] [b, c] pos) (upE X.K X.mg W (fun σ H E Q => lastMarks [op, op'] [b, c] = false ∧ tChainT (cOp op) (cOp op') ta tb tc σ H E Q)) := up_guard fun h => by
  refine pe_imp (pe_chain (op_c (by omega) op) (op_c (by omega) op') ha hb hc h) fun σ' H' Q' ⟨σ, H, E, Q, rs, rh, q, kq, kx⟩ => ?_
  refine ⟨σ, H, E, _, rs, rh, q, fun x T v H1 hq rt rh1 k1 => ?_, kx⟩
  refine ⟨σ, T, E, _, rs.keep k1.k, rh1, hq, fun y T2 u H2 hq2 rt2 rh2 k2 => ?_, kx.on k1⟩
  refine ⟨T2, x, y, _, rt.keep k2.k, rt2, rh2, hq2, fun z T3 z' H3 hq3 rt3 rh3 k3 => ?_⟩
  obtain ⟨k, rfl, q3⟩ := hq3
  cases rt3
  refine ⟨k, rfl, ?_⟩
  have kk := (k1.trans k2).trans k3
  cases k with
  | true =>
    rw [if_pos rfl] at q3 ⊢
    exact ⟨σ, T3, E, _, rs.keep kk.k, rh3, q3, fun w T4 w' H4 hq4 rt4 rh4 k4 => ⟨T4, y, w, Q, rt2.keep (k3.trans k4).k, rt4, rh4, hq4, kq.on (kk.trans k4)⟩, kx.on kk⟩
  | false =>
    rw [if_neg Bool.false_ne_true] at q3 ⊢
    exact kq _ _ _ _ q3 (.bl _) rh3 kk
theorem p_andW {f : Expr → TEx} (hf : ∀ e, PE X e (upE X.K X.mg W (f e))) {pos : Pos} : ∀ l : List Expr, PE X (.BoolOp .And l pos) (upE X.K X.mg W (andW f l))
  | [] => up_bad fun _ _ _ _ q => q
  | [a] => pe_one (hf a)
  | a :: b :: r => pe_imp (pe_andT (hf a) (p_andW hf (b :: r))) fun σ' H' Q' ⟨σ, H, E, Q, rs, rh, q, kq, kx⟩ => ⟨σ, H, E, _, rs, rh, q, fun x T v H1 hq rt rh1 k1 => by
    obtain ⟨k, ek, q1⟩ := hq
    refine ⟨k, tru_low rt rh1 ek, ?_⟩
    cases k with
    | true => exact ⟨σ, T, E, Q, rs.keep k1.k, rh1, q1, kq.on k1, kx.on k1⟩
    | false => exact kq _ _ _ _ q1 rt rh1 k1, kx⟩
theorem p_orW {f : Expr → TEx} (hf : ∀ e, PE X e (upE X.K X.mg W (f e))) {pos : Pos} : ∀ l : List Expr, PE X (.BoolOp .Or l pos) (upE X.K X.mg W (orW f l))
  | [] => up_bad fun _ _ _ _ q => q
  | [a] => pe_one (hf a)
  | a :: b :: r => pe_imp (pe_orT (hf a) (p_orW hf (b :: r))) fun σ' H' Q' ⟨σ, H, E, Q, rs, rh, q, kq, kx⟩ => ⟨σ, H, E, _, rs, rh, q, fun x T v H1 hq rt rh1 k1 => by
    obtain ⟨k, ek, q1⟩ := hq
    refine ⟨k, tru_low rt rh1 ek, ?_⟩
    cases k with
    | false => exact ⟨σ, T, E, Q, rs.keep k1.k, rh1, q1, kq.on k1, kx.on k1⟩
    | true => exact kq _ _ _ _ q1 rt rh1 k1, kx⟩
theorem p_if {c a b : Expr} {tc : TTx} {ta tb : TEx} {pos : Pos} (hc : PT X c (upT X.K X.mg W tc)) (ha : PE X a (upE X.K X.mg W ta)) (hb : PE X b (upE X.K X.mg W tb)) : PE X (.IfExp c a b pos) (upE X.K X.mg W (tIfE tc ta tb)) :=
  pe_imp (pe_ifExp hc ha hb) fun σ' H' Q' ⟨σ, H, E, Q, rs, rh, q, kq, kx⟩ => ⟨σ, H, E, _, rs, rh, q, fun k T H1 hq rh1 k1 => by
    cases k with
    | true => exact ⟨σ, T, E, Q, rs.keep k1.k, rh1, hq, kq.on k1, kx.on k1⟩
    | false => exact ⟨σ, T, E, Q, rs.keep k1.k, rh1, hq, kq.on k1, kx.on k1⟩, kx⟩
theorem p_args {f : Expr → TEx} (hf : ∀ e, PE X e (upE X.K X.mg W (f e))) : ∀ {l : List Expr}, noStars l = true → PA X l (upA X.K X.mg W (argsW f l))
  | [], _ => pa_imp pa_nil fun σ' H' Q' ⟨σ, H, E, Q, rs, rh, q, kq, kx⟩ => kq _ _ _ _ q .nil rh (.refl _)
  | e :: es, h => by
    simp only [noStars, List.all_cons, Bool.and_eq_true, Bool.not_eq_true'] at h
    refine pa_imp (pa_cons (hf e) (p_args hf (l := es) h.2) (starOne h.1)) fun σ' H' Q' ⟨σ, H, E, Q, rs, rh, q, kq, kx⟩ => ?_
    refine ⟨σ, H, E, _, rs, rh, q, fun x T v H1 hq rt rh1 k1 => ?_, kx⟩
    exact ⟨σ, T, E, _, rs.keep k1.k, rh1, hq, fun xs T2 vs H2 hq2 rt2 rh2 k2 => kq _ _ _ _ hq2 (.cons (rt.keep k2.k) rt2) rh2 (k1.trans k2), kx.on k1⟩
theorem stars_of {l : List Expr} (h : noStars l = true) : ∀ e ∈ l, isStar e = false := fun e he => by
  have := List.all_eq_true.mp h e he
  simpa using this
theorem p_tup {es : List Expr} {ta : TAx} {k : Nat} {pos : Pos} (h : PA X es (upA X.K X.mg W ta)) : PE X (.Tuple es k pos) (upE X.K X.mg W (tupW ta)) :=
  pe_imp (pe_tup h) fun σ' H' Q' ⟨σ, H, E, Q, rs, rh, q, kq, kx⟩ => ⟨σ, H, E, _, rs, rh, q, fun xs T vs H1 hq rt rh1 k1 =>
    ⟨by rw [← rt.length]; exact hq.1, fun p hp => kq _ _ _ _ hq.2 (.tup (.of upd_same) (rt.keep (.new hp))) (rh1.new hp) (k1.trans (.new hp))⟩, kx⟩
theorem p_lst {es : List Expr} {ta : TAx} {pos : Pos} (h : PA X es (upA X.K X.mg W ta)) : PE X (.List es pos) (upE X.K X.mg W (lstW ta)) :=
  pe_imp (pe_lst h) fun σ' H' Q' ⟨σ, H, E, Q, rs, rh, q, kq, kx⟩ => ⟨σ, H, E, _, rs, rh, q, fun xs T vs H1 hq rt rh1 k1 =>
    ⟨by rw [← rt.length]; exact hq.1, fun p hp => kq _ _ _ _ (hq.2 p (rh1.free hp)) (.ref p) (rh1.add hp ⟨_, upd_same, rt.keep (.new hp)⟩) (k1.trans (.new hp))⟩, kx⟩
theorem p_opt {f : Expr → TEx} (hf : ∀ e, PE X e (upE X.K X.mg W (f e))) (o : Option Expr) : PO X o (fun σ' H' Q' => ∃ σ H E Q, RS X.K H' σ σ' ∧ RH X.K X.mg H H' ∧ optW f o σ H E Q ∧
    (∀ x T H1, Q x T → RH X.K X.mg T H1 → Stp H H' T H1 → Q' x H1) ∧ KX X.K X.mg H H' E (fun c d H1 => W c d σ' H1)) := by
  cases o with
  | none => exact ⟨fun pins s σ' H' Q' I ⟨σ, H, E, Q, rs, rh, q, kq, kx⟩ => po_none.run pins s σ' H' Q' I (kq _ _ _ q rh (.refl _))⟩
  | some e => exact ⟨fun pins s σ' H' Q' I ⟨σ, H, E, Q, rs, rh, q, kq, kx⟩ => (po_some (hf e)).run pins s σ' H' Q' I ⟨σ, H, E, _, rs, rh, q, fun x T v H1 hq rt rh1 k1 => by
      obtain ⟨i, rfl, hq⟩ := hq
      cases rt
      exact ⟨i, rfl, kq _ _ _ hq rh1 k1⟩, kx⟩⟩
theorem p_slice {f : Expr → TEx} (hf : ∀ e, PE X e (upE X.K X.mg W (f e))) {e : Expr} {lo hi : Option Expr} {p pos : Pos} : PE X (.Subscript e (.Slice lo hi none p) pos) (upE X.K X.mg W (slW (f e) (optW f lo) (optW f hi))) :=
  pe_imp (pe_slice sl_s (hf e) (p_opt hf lo) (p_opt hf hi)) fun σ' H' Q' ⟨σ, H, E, Q, rs, rh, q, kq, kx⟩ => ⟨σ, H, E, _, rs, rh, q, fun x T v H1 hq rt rh1 k1 =>
    ⟨σ, T, E, _, rs.keep k1.k, rh1, hq, fun l T2 H2 hq2 rh2 k2 => ⟨σ, T2, E, _, rs.keep (k1.trans k2).k, rh2, hq2, fun u T3 H3 hq3 rh3 k3 => ⟨T3, x, Q, rt.keep (k2.trans k3).k, rh3, hq3, kq.on ((k1.trans k2).trans k3)⟩, kx.on (k1.trans k2)⟩, kx.on k1⟩, kx⟩
theorem plain_ix {b : Expr} (h : isSimpleIx b = true) : PlainIx b := by
  intro o i
  cases b <;> first | rfl | (exact absurd h (by simp [isSimpleIx]))
theorem p_ix (un : X.A.units + 100 < cLine) {a b : Expr} {ta tb : TEx} {pos : Pos} (ha : PE X a (upE X.K X.mg W ta)) (hb : PE X b (upE X.K X.mg W tb)) :
    PE X (.Subscript a b pos) (upE X.K X.mg W (fun σ H E Q => isSimpleIx b = true ∧ tBin ixOp ta tb σ H E Q)) := up_guard fun h => up_two (pe_ix (ix_i (by omega)) ha hb (plain_ix h))
end
end TL


set_option Elab.async false
set_option linter.all false
set_option maxRecDepth 100000
/-! TL6c: calls, methods, dict displays. -/
namespace TL
open PySem PySem.Spec L2
section
variable {X : Cx} {W : WX} {S : SC} {G : GE}
theorem up_call {e : Expr} {ta : TAx} {f : List TV → TH → TQ → Prop} (h : PE X e (tCB (LCall X.K X.mg f) (upA X.K X.mg W ta))) : PE X e (upE X.K X.mg W (fun σ H E Q => ta σ H E fun xs H1 => f xs H1 Q)) :=
  pe_imp h fun σ' H' Q' ⟨σ, H, E, Q, rs, rh, q, kq, kx⟩ => ⟨σ, H, E, _, rs, rh, q, fun xs T vs H1 hq rt rh1 k1 => ⟨T, xs, Q, rt, rh1, hq, kq.on k1⟩, kx⟩
set_option maxHeartbeats 2000000 in
theorem p_bf (ok : Ok X S G W) (hcalm : X.calm = true) (hgd : X.A.guards = some []) {f : Str} {b : BF} (hb : bfOf f = some b) (hg : Gl X f) (hm : X.mg f = none) {e : Expr} {es : List Expr} {ta : TAx} {p pos : Pos} (ha : PA X (e :: es) (upA X.K X.mg W ta)) (hs : noStars (e :: es) = true) :
    PE X (.Call (.Name f p) (e :: es) [] pos) (upE X.K X.mg W (fun σ H E Q => ta σ H E fun xs H1 => bfDo b xs H1 Q)) := by
  have h1 := starOne (es := es) (env := X.env) (stars_of hs e List.mem_cons_self)
  have h2 : (backTo pos (starEach es X.env)).any (·.1) = false := starNone fun e' he => stars_of hs e' (List.mem_cons_of_mem _ he)
  unfold bfOf at hb
  repeat' (split at hb)
  all_goals first
    | (cases hb; subst f; refine up_call ?_)
    | cases hb
  · exact pe_callB kl_len hg hm PySem.boot_len ha (by decide) (by decide) h1 h2
  · exact pe_callB kl_abs hg hm PyProof.Rows.boot_abs ha (by decide) (by decide) h1 h2
  · exact pe_callB (kl_max hcalm) hg hm PyProof.Rows.boot_max ha (by decide) (by decide) h1 h2
  · exact pe_callB (kl_min hcalm) hg hm PyProof.Rows.boot_min ha (by decide) (by decide) h1 h2
  · exact pe_callTy kl_int hg hm PyProof.Rows.boot_int ha (by decide) (by decide) h1 h2
  · exact pe_callTy kl_str hg hm PyProof.Rows.boot_str ha (by decide) (by decide) h1 h2
  · exact pe_callTy kl_tuple hg hm PyProof.Rows.boot_tuple ha (by decide) (by decide) h1 h2
  · exact pe_callTy kl_list hg hm PyProof.Rows.boot_list ha (by decide) (by decide) h1 h2
  · exact pe_callB (kl_all hcalm) hg hm PyProof.Rows.boot_all ha (by decide) (by decide) h1 h2
  · exact pe_callB (kl_any hcalm) hg hm PyProof.Rows.boot_any ha (by decide) (by decide) h1 h2
  · exact pe_callB (kl_repr hgd ok.un) hg hm (by first | exact PySem.boot_repr | exact PyProof.Rows.boot_repr | kernel_rfl) ha (by decide) (by decide) h1 h2
theorem bf_name {f : Str} {b : BF} (hb : bfOf f = some b) : f ∈ bNames := by
  unfold bfOf at hb
  repeat' (split at hb)
  all_goals first
    | (subst f; decide +kernel)
    | cases hb
/-- f(..), f a def of the module -/
theorem p_fn (ok : Ok X S G W) {f : Str} {sp : TSp} (F : FnV X f sp) (hgd : X.A.guards = some []) (hg : Gl X f) (hdb : (f == ("__debug__" : Str)) = false) {fe : Expr → TEx} (hf : ∀ e, PE X e (upE X.K X.mg W (fe e))) {es : List Expr} {p pos : Pos} (hs : noStars es = true) :
    PE X (.Call (.Name f p) es [] pos) (upE X.K X.mg W (fun σ H E Q => argsW fe es σ H E fun xs H1 => sp xs H1 E Q)) := by
  obtain ⟨k, fa, fd, ps, hm, hk, FF, hb, hr, hlen⟩ := F
  refine ⟨fun pins s σ' H' Q' I h => ?_⟩
  obtain ⟨σ, H, E, Q, rs, rh, q, kq, kx⟩ := h
  refine wpAny_Call_Name_kw (ld_glob I hg hm ?_ hdb)
  have core : ∀ (us : List Value) (s1 : Shared), AP X pins σ' (fun vs H1 => ∃ xs T, RTs X.K H1 xs vs ∧ RH X.K X.mg T H1 ∧ Stp H H' T H1 ∧ sp xs T E Q) us s1 → wpAny (model X.prog X.w) X.A (call (.ref fa) us) (EP X pins σ' Q') X.xe s1 := by
    rintro us s1 ⟨vs, H1, I1, r, xs, T, rt, rh1, k1, hq⟩
    exact run_g (E := fun σ c d H1 => W c d σ H1) FF hr hgd hb (passAt ok.tk σ') I1 r ⟨xs, T, E, Q, hlen _ _ _ _ hq, rt, rh1, hq, kq.on k1, kx.on k1⟩
  cases es with
  | nil =>
    have r0 : AP X pins σ' (fun vs H1 => ∃ xs T, RTs X.K H1 xs vs ∧ RH X.K X.mg T H1 ∧ Stp H H' T H1 ∧ sp xs T E Q) [] s := ⟨[], H', I, .nil, [], H, .nil, rh, .refl _, q⟩
    exact PySem.W.callWith_K0 I.kIn hk (core [] s r0)
  | cons e r =>
    have run := (p_args hf hs).run pos pins s σ' H' (fun vs H1 => ∃ xs T, RTs X.K H1 xs vs ∧ RH X.K X.mg T H1 ∧ Stp H H' T H1 ∧ sp xs T E Q) I ⟨σ, H, E, _, rs, rh, q, fun xs T vs H1 hq rt rh1 k1 => ⟨xs, T, rt, rh1, k1, hq⟩, kx⟩
    have h1 := starOne (es := r) (env := X.env) (stars_of hs e List.mem_cons_self)
    have h2 : (backTo pos (starEach r X.env)).any (·.1) = false := starNone fun e' he => stars_of hs e' (List.mem_cons_of_mem _ he)
    refine PySem.W.callWith_K (h₀ := X.base) I.ok.mod.kin hk (thn run fun us s1 ap => ⟨?_, core us s1 ap⟩) h1 h2
    obtain ⟨vs, H1, I1, _⟩ := ap
    exact I1.kIn
theorem up_need {α : Type} {e : Expr} {o : Option α} {t : α → TEx} (h : ∀ a, o = some a → PE X e (upE X.K X.mg W (t a))) : PE X e (upE X.K X.mg W (fun σ H E Q => Need o fun a => t a σ H E Q)) := by
  cases o with
  | none => exact up_bad fun σ H E Q q => by obtain ⟨a, e, _⟩ := q; cases e
  | some a => exact pe_imp (h a rfl) fun σ' H' Q' ⟨σ, H, E, Q, rs, rh, ⟨b, e, q⟩, kq, kx⟩ => by cases e; exact ⟨σ, H, E, Q, rs, rh, q, kq, kx⟩
/-- C(..), C an exception class of the text: what is wanted of what is made -/
def tMk (K : PySem.W.Frag) (mg : Str → Option Value) (W : WX) (c : Str) (ci : CI) (ta : TAx) : L2.St → Hp → XK → Prop := fun σ' H' Q' => ∃ (σ : TSt) (H : TH) (E : TX) (R : List (Str × TV) → TH → Prop), RS K H' σ σ' ∧ RH K mg H H' ∧ ta σ H E (fun xs H1 => xs ≠ [] ∧ ci.xk xs H1 fun fs => R fs H1) ∧
  (∀ fs T C d H1, R fs T → mg c = some (.ref C) → XFs K H1 d fs → RH K mg T H1 → Stp H H' T H1 → Q' (.ref C) d H1) ∧ KX K mg H H' E (fun c d H1 => W c d σ' H1)
theorem mk_run (ok : Ok X S G W) (hc : S.calm = true) (ht : S.top = true) {c : Str} {ci : CI} (hci : G.cls c = some ci) (hg : Gl X c) (hdb : (c == ("__debug__" : Str)) = false) {fe : Expr → TEx} (hf : ∀ e, PE X e (upE X.K X.mg W (fe e))) {e : Expr} {r : List Expr} {p pos : Pos} (hs : noStars (e :: r) = true) :
    PMk X (.Call (.Name c p) (e :: r) [] pos) (tMk X.K X.mg W c ci (argsW fe (e :: r))) := by
  intro pins s σ' H' Q' I h
  obtain ⟨σ, H, E, R, rs, rh, q, kq, kx⟩ := h
  obtain ⟨k, F, hr⟩ := ok.xk hc c ci hci
  obtain ⟨C, hm, hk, _, _, run⟩ := F.ex
  refine wpAny_Call_Name_kw (ld_glob I hg hm ?_ hdb)
  have run' := (p_args hf hs).run pos pins s σ' H' (fun vs H1 => ∃ xs T, RTs X.K H1 xs vs ∧ RH X.K X.mg T H1 ∧ Stp H H' T H1 ∧ ci.xk xs T fun fs => R fs T) I ⟨σ, H, E, _, rs, rh, q, fun xs T vs H1 hq rt rh1 k1 => ⟨xs, T, rt, rh1, k1, hq.2⟩, kx⟩
  have h1 := starOne (es := r) (env := X.env) (stars_of hs e List.mem_cons_self)
  have h2 : (backTo pos (starEach r X.env)).any (·.1) = false := starNone fun e' he => stars_of hs e' (List.mem_cons_of_mem _ he)
  refine PySem.W.callWith_K (h₀ := X.base) I.ok.mod.kin hk (thn run' fun us s1 ap => ⟨?_, ?_⟩) h1 h2
  · obtain ⟨vs, H1, I1, _⟩ := ap
    exact I1.kIn
  · obtain ⟨vs, H1, I1, rv, xs, T, rt, rh1, k1, hq⟩ := ap
    refine wpAny_mono (run X pins σ' H1 s1 us vs xs T (fun fs => R fs T) X.xe rfl rfl rfl rfl rfl (ok.own ht).1 hr (ok.grd hc) I1 rv rt rh1 hq) (fun u s2 hu => ?_) fun _ _ z => z
    obtain ⟨a, oe, vs', sI, H2, cls, d, e1, e2, e3, e4, e5, e6, e7, e8, e9, e10, e11, e12, ec, fs, hfs, xf, rh2, st⟩ := hu
    exact ⟨a, oe, vs', sI, H2, cls, d, e1, e2, e3, e4, e5, e6, e7, e8, e9, e10, e11, e12, by rw [ec]; exact kq fs T C d H2 hfs hm xf rh2 (k1.trans st)⟩
/-- what was made is a value -/
theorem mk_value {pins : List (Addr × Obj)} {σ : L2.St} {Q : XK} {Q' : VK} {u : Value} {s' : Shared} (h : MkP X pins σ Q u s') (hq : ∀ a cls d H', Q cls d H' → H' a = none → Q' (.ref a) (upd H' a (ExR cls d a))) : EP X pins σ Q' u s' := by
  obtain ⟨a, oe, vs, sI, H', cls, d, rfl, I, k, hne, ha, hz, hd, h1, na, os, ag, r, q⟩ := h
  exact ⟨.ref a, _, I.call' (ch := []) os (Un.laidN k hne na) (I.hok.laidN k na (exR_ok ha hz hd)) ag (fun _ z => nomatch z), rfl, hq a cls d H' q na⟩
theorem p_mk (ok : Ok X S G W) (hc : S.calm = true) (ht : S.top = true) {c : Str} {ci : CI} (hci : G.cls c = some ci) (hg : Gl X c) (hdb : (c == ("__debug__" : Str)) = false) {fe : Expr → TEx} (hf : ∀ e, PE X e (upE X.K X.mg W (fe e))) {es : List Expr} {p pos : Pos} (hs : noStars es = true) (hn : es ≠ []) :
    PE X (.Call (.Name c p) es [] pos) (upE X.K X.mg W (fun σ H E Q => argsW fe es σ H E fun xs H1 => xs ≠ [] ∧ ci.xk xs H1 fun fs => ∀ p, H1 p = none → Q (.ref p) (tupd H1 p (.exc c fs)))) := by
  cases es with
  | nil => exact absurd rfl hn
  | cons e r =>
    refine ⟨fun pins s σ' H' Q' I h => ?_⟩
    obtain ⟨σ, H, E, Q, rs, rh, q, kq, kx⟩ := h
    refine wpAny_mono (mk_run (p := p) (pos := pos) ok hc ht hci hg hdb hf hs pins s σ' H' (fun cls d H1 => ∀ a, H1 a = none → Q' (.ref a) (upd H1 a (ExR cls d a))) I ⟨σ, H, E, (fun fs H1 => ∀ p, H1 p = none → Q (.ref p) (tupd H1 p (.exc c fs))), rs, rh, q, fun fs T C d H1 hr hm xf rh1 st a ha => ?_, kx⟩) (fun u s2 hu => mk_value hu fun a cls d H1 h1 h2 => h1 a h2) fun _ _ z => z
    exact kq _ _ _ _ (hr a (rh1.free ha)) (.ref a) (rh1.add ha ⟨C, d, hm, upd_same, xf.keep (.new ha)⟩) (st.trans (.new ha))
theorem p_call (ok : Ok X S G W) (f : Str) {fe : Expr → TEx} (hf : ∀ e, PE X e (upE X.K X.mg W (fe e))) (es : List Expr) (p pos : Pos) : PE X (.Call (.Name f p) es [] pos) (upE X.K X.mg W (fun σ H E Q => noStars es = true ∧ callW S G f (argsW fe es) σ H E Q)) := by
  refine up_guard fun hs => ?_
  unfold callW
  refine up_guard fun h => ?_
  simp only [Bool.and_eq_true] at h
  obtain ⟨hd, _, hn⟩ := ok_name h.1.1.1
  have hg := ok.gl h.1.1.2
  have hc := h.2
  split
  · rename_i b hb
    cases es with
    | nil => exact up_bad fun σ H E Q q => by cases b <;> exact q
    | cons e r => exact p_bf ok (ok.calm hc) (ok.grd hc) hb hg (ok.blt f (bf_name hb)) (p_args hf hs) hs
  · split
    · rename_i sp hsp
      exact p_fn ok (ok.fns hc f sp hsp) (ok.grd hc) hg hd hf hs
    · by_cases ht : S.top = true
      · by_cases hn : es = []
        · subst hn
          exact up_bad fun σ H E Q q => by
            obtain ⟨_, ci, e, q⟩ := q
            exact q.1 rfl
        · refine up_guard fun _ => up_need fun ci hci => p_mk ok hc ht hci hg hd hf hs hn
      · exact up_bad fun σ H E Q q => ht q.1
/-- isinstance(e, C), C a built-in type -/
def strNs : List String := ["int", "bool", "str", "tuple", "list", "dict", "NoneType"]
theorem boot_ns : ∀ n ∈ (["int", "bool", "str", "tuple", "list", "dict"] : List String), bootBuiltins (Str.ofString n) = some (.type n) := by decide +kernel
theorem strNm_eq {c : Str} {m : String} (h : strNm c = some m) (hn : m ≠ "NoneType") : c = Str.ofString m ∧ m ∈ (["int", "bool", "str", "tuple", "list", "dict"] : List String) ∧ c ∈ bNames := by
  unfold strNm at h
  repeat' (split at h)
  all_goals first
    | (cases h; subst c; exact ⟨by decide +kernel, by decide, by decide +kernel⟩)
    | (cases h; exact absurd rfl hn)
    | cases h
theorem p_isi (ok : Ok X S G W) (hc : S.calm = true) {a : Expr} {te : TEx} (c : Str) {p p2 pos : Pos} (hs : isStar a = false) (hi : (okName ("isinstance" : Str) && glB S.sc "isinstance" && (idx S.N "isinstance").isNone) = true) (ha : PE X a (upE X.K X.mg W te)) :
    PE X (.Call (.Name "isinstance" p) [a, .Name c p2] [] pos) (upE X.K X.mg W (isiW S te c)) := by
  unfold isiW
  refine up_guard fun h => up_need fun m hm => ?_
  by_cases hne : m = "NoneType"
  · exact up_bad fun σ H E Q q => q.1 hne
  simp only [Bool.and_eq_true] at h hi
  obtain ⟨hd, _, hn⟩ := ok_name h.1.1
  obtain ⟨e1, e2, e3⟩ := strNm_eq hm hne
  have hcn : PE X (.Name c p2) (tC (.ty m)) := pe_bltn (ok.gl h.1.2) (ok.blt c e3) (by rw [e1]; exact boot_ns m e2) rfl hn hd
  refine pe_imp (pe_callB call_isi (ok.gl hi.1.2) (ok.blt _ (by decide +kernel)) PyProof.Rows.boot_isinstance (pa_cons ha (pa_cons hcn pa_nil (by rfl)) (starOne hs)) (by decide) (by decide) (starOne hs) (by rfl))
    fun σ' H' Q' ⟨σ, H, E, Q, rs, rh, q, kq, kx⟩ => ?_
  refine ⟨σ, H, E, _, rs, rh, q.2, fun x T v H1 hq rt rh1 k1 => ?_, kx⟩
  obtain ⟨⟨b, t⟩, et, hb, n, en, q2⟩ := hq
  have hb' : b = true := hb
  subst hb'
  obtain ⟨n', en', hn', ty⟩ := ty_low rt rh1 et
  rw [show strNm t = some n' from en'] at en
  cases en
  exact ⟨v, .ty m, _, .type m, _, rfl, .ty m, ty, kit_known X.K _ hn' m e2, kq _ _ _ _ q2 (.bl _) rh1 k1⟩
/-! ### methods of built-in types -/
def LMt (K : PySem.W.Frag) (mg : Str → Option Value) (m : TV → List TV → TH → TQ → Prop) : V → List V → Hp → VK → Prop := fun x' xs' H' Q' => ∃ H x xs Q, RT K H' x x' ∧ RTs K H' xs xs' ∧ RH K mg H H' ∧ m x xs H Q ∧ KQ K mg H H' Q Q'
theorem mt_bAppend : MtR X "list.append" (LMt X.K X.mg mAppend) := by
  intro pins s σ H x' xs' v us Q' I rx rv h
  obtain ⟨T, x, xs, Q, tx, ts, rh, h, kq⟩ := h
  unfold mAppend at h
  split at h
  · rename_i a y
    obtain ⟨l, e, hz, q⟩ := h
    cases tx
    obtain ⟨w, rfl, r⟩ := rts1 ts
    obtain ⟨vs, h1, r1⟩ := rh a _ e
    have kp : Keep H (upd H a (.lst (vs ++ [w]))) := .put h1 (fun _ z => by cases z) (fun _ _ z => by cases z)
    exact mt_append pins s σ H _ _ v us Q' I rx rv ⟨a, vs, w, rfl, rfl, h1, by rw [← r1.length]; exact hz, kq _ _ _ _ q .non (rh.put kp ⟨_, upd_same, (r1.append (.cons r .nil)).keep kp⟩) (.put e kp)⟩
  · exact h.elim
theorem mt_bExtend : MtR X "list.extend" (LMt X.K X.mg mExtend) := by
  intro pins s σ H x' xs' v us Q' I rx rv h
  obtain ⟨T, x, xs, Q, tx, ts, rh, h, kq⟩ := h
  unfold mExtend at h
  split at h
  · rename_i a b
    obtain ⟨l, m, e, f, hz, q⟩ := h
    cases tx
    obtain ⟨w, rfl, r⟩ := rts1 ts
    cases r
    obtain ⟨vs, h1, r1⟩ := rh a _ e
    obtain ⟨ws, h2, r2⟩ := rh b _ f
    have kp : Keep H (upd H a (.lst (vs ++ ws))) := .put h1 (fun _ z => by cases z) (fun _ _ z => by cases z)
    exact mt_extend pins s σ H _ _ v us Q' I rx rv ⟨a, b, vs, ws, rfl, rfl, h1, h2, by rw [← r1.length, ← r2.length]; exact hz, kq _ _ _ _ q .non (rh.put kp ⟨_, upd_same, (r1.append r2).keep kp⟩) (.put e kp)⟩
  · exact h.elim
theorem RTs.dropLast {K : PySem.W.Frag} {H : Hp} {l : List TV} {vs : List V} (r : RTs K H l vs) : RTs K H l.dropLast vs.dropLast := by
  rw [List.dropLast_eq_take, List.dropLast_eq_take, ← r.length]
  exact r.take _
theorem mt_bPop : MtR X "list.pop" (LMt X.K X.mg mPop) := by
  intro pins s σ H x' xs' v us Q' I rx rv h
  obtain ⟨T, x, xs, Q, tx, ts, rh, h, kq⟩ := h
  unfold mPop at h
  split at h
  · rename_i a
    obtain ⟨l, y, e, f, q⟩ := h
    cases tx
    cases ts
    obtain ⟨vs, h1, r1⟩ := rh a _ e
    obtain ⟨w, e1, r⟩ := r1.get f
    rw [r1.length] at e1
    have kp : Keep H (upd H a (.lst vs.dropLast)) := .put h1 (fun _ z => by cases z) (fun _ _ z => by cases z)
    exact mt_pop pins s σ H _ _ v us Q' I rx rv ⟨a, vs, w, rfl, rfl, h1, e1, kq _ _ _ _ q (r.keep kp) (rh.put kp ⟨_, upd_same, r1.dropLast.keep kp⟩) (.put e kp)⟩
  · exact h.elim
theorem strs_low {K : PySem.W.Frag} {H : Hp} : ∀ {l : List TV} {vs : List V} {ys : List Str}, RTs K H l vs → strsOf l = some ys → vs = ys.map V.str
  | [], _, ys, .nil, e => by simp only [strsOf, Option.some.injEq] at e; subst e; rfl
  | x :: l, _, ys, .cons a b, e => by
    cases a with
    | str k =>
      simp only [strsOf] at e
      cases q : strsOf l with
      | none => rw [q] at e; cases e
      | some c =>
        rw [q] at e
        simp only [Option.map_some, Option.some.injEq] at e
        subst e
        rw [strs_low b q]
        rfl
    | _ => cases e
theorem mt_bJoin : MtR X "str.join" (LMt X.K X.mg mJoin) := by
  intro pins s σ H x' xs' v us Q' I rx rv h
  obtain ⟨T, x, xs, Q, tx, ts, rh, h, kq⟩ := h
  unfold mJoin at h
  split at h
  · rename_i a y
    obtain ⟨⟨t, l⟩, e, ys, ey, hz, q⟩ := h
    cases tx
    obtain ⟨w, rfl, r⟩ := rts1 ts
    obtain ⟨p, vs, rfl, r1, s1⟩ := seq_lowE r rh e
    rw [strs_low r1 ey] at s1
    exact mt_join pins s σ H _ _ v us Q' I rx rv ⟨a, p, ys, rfl, rfl, s1, hz, kq _ _ _ _ q (.str _) rh (.refl _)⟩
  · exact h.elim
theorem mt_bSplit : MtR X "str.split" (LMt X.K X.mg mSplit) := by
  intro pins s σ H x' xs' v us Q' I rx rv h
  obtain ⟨T, x, xs, Q, tx, ts, rh, h, kq⟩ := h
  unfold mSplit at h
  split at h
  · rename_i a b
    obtain ⟨h1, h2, q⟩ := h
    cases tx
    obtain ⟨w, rfl, r⟩ := rts1 ts
    cases r
    refine mt_split pins s σ H _ _ v us Q' I rx rv ⟨a, b, rfl, rfl, h1, h2, fun p hp => ?_⟩
    exact kq _ _ _ _ (q p (rh.free hp)) (.ref p) (rh.add hp ⟨_, upd_same, .strs _⟩) (.new hp)
  · exact h.elim
theorem mt_bIndexS : MtR X "str.index" (LMt X.K X.mg mIndexS) := by
  intro pins s σ H x' xs' v us Q' I rx rv h
  obtain ⟨T, x, xs, Q, tx, ts, rh, h, kq⟩ := h
  unfold mIndexS at h
  split at h
  · rename_i a b
    obtain ⟨i, rest, e, q⟩ := h
    cases tx
    obtain ⟨w, rfl, r⟩ := rts1 ts
    cases r
    exact mt_sindex pins s σ H _ _ v us Q' I rx rv ⟨a, b, i, rest, rfl, rfl, e, kq _ _ _ _ q (.int _) rh (.refl _)⟩
  · exact h.elim
end
end TL


set_option Elab.async false
set_option linter.all false
set_option maxRecDepth 100000
/-! TL6d: method calls, dict displays, tests. -/
namespace TL
open PySem PySem.Spec L2
section
variable {X : Cx} {W : WX} {S : SC} {G : GE}
/-- the receiver is no call without arguments (super() is one) -/
theorem base_of {o : Expr} {m : Str} {env : Env} (h : notCall0 o = true) : attributeBase o m env (eval o env) = eval o env := by
  cases o <;> first
    | rfl
    | skip
  rename_i f as ks p
  cases as with
  | cons a r => cases f <;> rfl
  | nil =>
    cases ks with
    | cons k r => cases f <;> rfl
    | nil => cases f <;> first | rfl | (exact absurd h (by simp [notCall0]))
theorem isTy_low {K : PySem.W.Frag} {mg : Str → Option Value} {H : Hp} {T : TH} {n : String} {x : TV} {v : V} (r : RT K H x v) (rh : RH K mg T H) (h : isTy n T x) : tyV K n v H := by
  cases r with
  | str => exact h
  | rol a b => exact .inl ⟨h, _, a.l⟩
  | ref a =>
    simp only [isTy] at h
    split at h
    · rename_i l hl
      obtain ⟨vs, h1, _⟩ := rh a _ hl
      exact .inl ⟨h, vs, .of h1⟩
    · rename_i l hl
      obtain ⟨vs, h1, _⟩ := rh a _ hl
      exact .inr (.inr (.inl ⟨h, .inl ⟨vs, h1⟩⟩))
    · exact h.elim
  | _ => exact h.elim
theorem noStarsAll : ∀ {es : List Expr} {env : Env} {pos : Pos}, noStars es = true → (backTo pos (starEach es env)).all (fun x => !x.1) = true := by
  intro es env pos h
  have q : ∀ es : List Expr, noStars es = true → (starEach es env).all (fun x => !x.1) = true := by
    intro es
    induction es with
    | nil => intro _; rfl
    | cons e es ih =>
      intro h
      rw [starOne (stars_of h e List.mem_cons_self), List.all_cons, ih]
      · rfl
      · simp only [noStars, List.all_cons, Bool.and_eq_true] at h
        exact h.2
  have := q es h
  unfold backTo
  rw [List.all_map]
  exact this
theorem p_bm {T : String} {id : String} {name : Str} {m : TV → List TV → TH → TQ → Prop} (pa : PlainAttrs T) (slot : Slot T name id) (hty : typeOf (.builtin id) = pure (.type "method_descriptor")) (hm : MtR X id (LMt X.K X.mg m))
    {o : Expr} {to : TEx} {fe : Expr → TEx} (ho : PE X o (upE X.K X.mg W to)) (hf : ∀ e, PE X e (upE X.K X.mg W (fe e))) {es : List Expr} {apos cpos : Pos} (hl : (apos.endLine == cpos.line) = true) (hn : es.length < 30) (hs : noStars es = true) (hb : notCall0 o = true) :
    PE X (.Call (.Attribute o name apos) es [] cpos) (upE X.K X.mg W (methW ⟨T, id, m⟩ to (argsW fe es))) := by
  cases es with
  | nil =>
    refine pe_imp (pe_bm0 pa slot hty hm ho (base_of hb) hl) fun σ' H' Q' ⟨σ, H, E, Q, rs, rh, q, kq, kx⟩ => ?_
    exact ⟨σ, H, E, _, rs, rh, q, fun x T v H1 hq rt rh1 k1 => ⟨isTy_low rt rh1 hq.1, ⟨T, x, [], Q, rt, .nil, rh1, hq.2, kq.on k1⟩⟩, kx⟩
  | cons e r =>
    have h1 := starOne (es := r) (env := X.env) (stars_of hs e List.mem_cons_self)
    have h2 : (backTo cpos (starEach r X.env)).any (·.1) = false := starNone fun e' he => stars_of hs e' (List.mem_cons_of_mem _ he)
    refine pe_imp (pe_bm pa slot hty hm ho (p_args hf hs) (base_of hb) (by rw [noStarsAll hs]; simp only [Bool.true_and]; simpa [backToKw, keywordEach] using hn) hl h1 h2) fun σ' H' Q' ⟨σ, H, E, Q, rs, rh, q, kq, kx⟩ => ?_
    exact ⟨σ, H, E, _, rs, rh, q, fun x T v H1 hq rt rh1 k1 => ⟨isTy_low rt rh1 hq.1, σ, T, E, _, rs.keep k1.k, rh1, hq.2, fun xs T2 vs H2 hq2 rt2 rh2 k2 =>
      ⟨T2, x, xs, Q, rt.keep k2.k, rt2, rh2, hq2, kq.on (k1.trans k2)⟩, kx.on k1⟩, kx⟩
theorem p_meth {name : Str} {b : BM} {o : Expr} {to : TEx} {fe : Expr → TEx} (ho : PE X o (upE X.K X.mg W to)) (hf : ∀ e, PE X e (upE X.K X.mg W (fe e))) {es : List Expr} {apos cpos : Pos} (hb : bmOf name es.length = some b)
    (hl : (apos.endLine == cpos.line) = true) (hn : es.length < 30) (hs : noStars es = true) (hb0 : notCall0 o = true) : PE X (.Call (.Attribute o name apos) es [] cpos) (upE X.K X.mg W (methW b to (argsW fe es))) := by
  unfold bmOf at hb
  repeat' (split at hb)
  all_goals first
    | (rename_i hh; obtain ⟨rfl, _⟩ := hh; cases hb)
    | cases hb
  · exact p_bm PySem.F.plainAttrs_list PySem.F.slot_list_append PySem.F.type_list_append mt_bAppend ho hf hl hn hs hb0
  · exact p_bm PySem.F.plainAttrs_list PySem.F.slot_list_extend PySem.F.type_list_extend mt_bExtend ho hf hl hn hs hb0
  · exact p_bm PySem.F.plainAttrs_list PySem.F.slot_list_pop PySem.F.type_list_pop mt_bPop ho hf hl hn hs hb0
  · exact p_bm PySem.F.plainAttrs_str PySem.F.slot_str_join PySem.F.type_str_join mt_bJoin ho hf hl hn hs hb0
  · exact p_bm PySem.F.plainAttrs_str PySem.F.slot_str_split PySem.F.type_str_split mt_bSplit ho hf hl hn hs hb0
  · exact p_bm PySem.F.plainAttrs_str PySem.F.slot_str_index PySem.F.type_str_index mt_bIndexS ho hf hl hn hs hb0
/-! ### dict displays -/
def trsOf (f : Expr → TE) : List (Option Expr) → List Expr → List (TE × TE)
  | some k :: ks, v :: vs => (f k, f v) :: trsOf f ks vs
  | _, _ => []
theorem p_pairs {f : Expr → TEx} (hf : ∀ e, PE X e (upE X.K X.mg W (f e))) {pos : Pos} : ∀ {ks : List (Option Expr)} {vs : List Expr}, okPairs ks vs = true → PPs X pos ks vs (trsOf (fun e => upE X.K X.mg W (f e)) ks vs)
  | [], [], _ => pps_nil
  | some k :: ks, v :: vs, h => pps_cons (hf k) (hf v) (p_pairs hf (ks := ks) (vs := vs) h)
  | none :: _, _, h => by cases h
  | [], _ :: _, h => by cases h
  | some _ :: _, [], h => by cases h
inductive RPs (K : PySem.W.Frag) (H : Hp) : List (TV × TV) → List (V × V) → Prop
  | nil : RPs K H [] []
  | cons {x y : TV} {v w : V} {xs : List (TV × TV)} {vs : List (V × V)} : RT K H x v → RT K H y w → RPs K H xs vs → RPs K H ((x, y) :: xs) ((v, w) :: vs)
theorem pairs_low {f : Expr → TEx} : ∀ {ks : List (Option Expr)} {vs : List Expr} {σ : TSt} {σ' : L2.St} {H : TH} {H' : Hp} {E : TX} {Q : List (TV × TV) → TH → Prop} {Q' : List (V × V) → Hp → Prop}, RS X.K H' σ σ' → RH X.K X.mg H H' → pairsW f ks vs σ H E Q →
    (∀ ps T vs H1, Q ps T → RPs X.K H1 ps vs → RH X.K X.mg T H1 → Stp H H' T H1 → Q' vs H1) → KX X.K X.mg H H' E (fun c d H1 => W c d σ' H1) → tPairs (trsOf (fun e => upE X.K X.mg W (f e)) ks vs) σ' H' Q'
  | [], [], σ, σ', H, H', E, Q, Q', rs, rh, h, kq, kx => kq _ _ _ _ h .nil rh (.refl _)
  | some k :: ks, v :: vs, σ, σ', H, H', E, Q, Q', rs, rh, h, kq, kx => ⟨σ, H, E, _, rs, rh, h, fun x T u H1 hq rt rh1 k1 => ⟨σ, T, E, _, rs.keep k1.k, rh1, hq, fun y T2 w H2 hq2 rt2 rh2 k2 =>
      pairs_low (ks := ks) (vs := vs) (rs.keep (k1.trans k2).k) rh2 hq2 (fun ps T3 ws H3 hq3 rp rh3 k3 => kq _ _ _ _ hq3 (.cons (rt.keep (k2.trans k3).k) (rt2.keep k3.k) rp) rh3 ((k1.trans k2).trans k3)) (kx.on (k1.trans k2)), kx.on k1⟩, kx⟩
  | none :: _, _, _, _, _, _, _, _, _, _, _, h, _, _ => h.elim
  | [], _ :: _, _, _, _, _, _, _, _, _, _, h, _, _ => h.elim
  | some _ :: _, [], _, _, _, _, _, _, _, _, _, h, _, _ => h.elim
theorem RKs.put {K : PySem.W.Frag} {H : Hp} {kvs : List (Key × TV)} {vs : List (Key × V)} (r : RKs K H kvs vs) (k : Key) {x : TV} {v : V} (q : RT K H x v) : RKs K H (putT kvs k x) (putK vs k v) := by
  have hany : ∀ {a : List (Key × TV)} {b : List (Key × V)}, RKs K H a b → (a.any fun kv => decide (kv.1 = k)) = (b.any fun kv => decide (kv.1 = k)) := by
    intro a b h
    induction h with
    | nil => rfl
    | cons a b ih => simp only [List.any_cons, ih]
  have hmap : ∀ {a : List (Key × TV)} {b : List (Key × V)}, RKs K H a b → RKs K H (a.map fun kv => if kv.1 = k then (kv.1, x) else kv) (b.map fun kv => if kv.1 = k then (kv.1, v) else kv) := by
    intro a b h
    induction h with
    | nil => exact .nil
    | @cons k' y w xs vs a b ih =>
      simp only [List.map_cons]
      by_cases hk : k' = k
      · rw [if_pos hk, if_pos hk]
        exact .cons q ih
      · rw [if_neg hk, if_neg hk]
        exact .cons a ih
  have happ : ∀ {a : List (Key × TV)} {b : List (Key × V)}, RKs K H a b → RKs K H (a ++ [(k, x)]) (b ++ [(k, v)]) := by
    intro a b h
    induction h with
    | nil => exact .cons q .nil
    | cons a b ih => exact .cons a ih
  unfold putT putK
  rw [hany r]
  split
  · exact hmap r
  · exact happ r
theorem RKs.merge {K : PySem.W.Frag} {H : Hp} : ∀ {more : List (Key × TV)} {ms : List (Key × V)} {kvs : List (Key × TV)} {vs : List (Key × V)}, RKs K H more ms → RKs K H kvs vs → RKs K H (mergeT kvs more) (mergeK vs ms)
  | _, _, _, _, .nil, r => r
  | (k, x) :: xs, (_, v) :: vs, kvs, ws, .cons a b, r => by
    have q := RKs.merge b (r.put k a)
    exact q
theorem keys_low {K : PySem.W.Frag} {H : Hp} : ∀ {ps : List (TV × TV)} {vs : List (V × V)} {l : List (Key × TV)}, RPs K H ps vs → keysT ps = some l → ∃ kvs : List (Key × V), vs = kvs.map (fun kv => (kV kv.1, kv.2)) ∧ RKs K H l kvs
  | _, _, l, .nil, e => by simp only [keysT, Option.some.injEq] at e; subst e; exact ⟨[], rfl, .nil⟩
  | _, _, l, .cons a b c, e => by
    simp only [keysT] at e
    split at e
    · rename_i k l' hk hl
      simp only [Option.some.injEq] at e; subst e
      obtain ⟨kvs, e1, e2⟩ := keys_low c hl
      rw [key_low a hk, e1]
      exact ⟨(k, _) :: kvs, rfl, .cons b e2⟩
    · cases e
theorem okPairs_all : ∀ {ks : List (Option Expr)} {vs : List Expr}, okPairs ks vs = true → ks.all (·.isSome) = true ∧ ks.length = vs.length
  | [], [], _ => ⟨rfl, rfl⟩
  | some k :: ks, v :: vs, h => by
    obtain ⟨a, b⟩ := okPairs_all (ks := ks) (vs := vs) h
    exact ⟨by rw [List.all_cons, a]; rfl, by simp [b]⟩
  | none :: _, _, h => by cases h
  | [], _ :: _, h => by cases h
  | some _ :: _, [], h => by cases h
theorem p_dct {f : Expr → TEx} (hf : ∀ e, PE X e (upE X.K X.mg W (f e))) {ks : List (Option Expr)} {vs : List Expr} {pos : Pos} (hok : okPairs ks vs = true) (h15 : ks.length ≤ 15) : PE X (.Dict ks vs pos) (upE X.K X.mg W (dctW f ks vs)) := by
  cases ks with
  | nil =>
    cases vs with
    | cons => cases hok
    | nil =>
      refine pe_imp pe_dnewK fun σ' H' Q' ⟨σ, H, E, Q, rs, rh, ⟨_, q⟩, kq, kx⟩ p hp => ?_
      obtain ⟨_, l, el, _, q⟩ := q p (rh.free hp)
      simp only [keysT, Option.some.injEq] at el; subst el
      have e : tupd (tupd H p (.dct [])) p (.dct (mergeT [] [])) = tupd H p (.dct []) := by funext b; unfold tupd; split <;> rfl
      rw [e] at q
      exact kq _ _ _ _ q (.ref p) (rh.add hp ⟨[], upd_same, .nil⟩) (.new hp)
  | cons k r =>
    obtain ⟨ha, hl⟩ := okPairs_all hok
    refine pe_imp (pe_disp (p_pairs hf hok) ha hl (by simp) h15) fun σ' H' Q' ⟨σ, H, E, Q, rs, rh, ⟨_, q⟩, kq, kx⟩ p hp => ?_
    have kp : Stp H H' (tupd H p (.dct [])) (upd H' p (.dK [])) := .new hp
    have rh0 : RH X.K X.mg (tupd H p (.dct [])) (upd H' p (.dK [])) := rh.add hp ⟨[], upd_same, .nil⟩
    refine pairs_low (rs.keep kp.k) rh0 (q p (rh.free hp)) (fun ps T ws H1 hq rp rh1 k1 => ?_) (kx.on kp)
    obtain ⟨e, l, el, hz, q⟩ := hq
    obtain ⟨vs0, e1, r0⟩ := rh1 p _ e
    cases r0
    obtain ⟨kvs, e2, r2⟩ := keys_low rp el
    refine ⟨e1, kvs, e2, ?_, ?_⟩
    · rw [← r2.length]; exact hz
    · have k2 : Keep H1 (upd H1 p (.dK (mergeK [] kvs))) := .put e1 (fun _ z => by cases z) (fun _ _ z => by cases z)
      exact kq _ _ _ _ q (.ref p) (rh1.put k2 ⟨_, upd_same, (r2.merge .nil).keep k2⟩) ((kp.trans k1).trans (.put e k2))
end
end TL


set_option Elab.async false
set_option linter.all false
set_option maxRecDepth 100000
/-! TL6e: tests, what is walked, targets. -/
namespace TL
open PySem PySem.Spec L2
section
variable {X : Cx} {W : WX} {S : SC} {G : GE}
theorem ut_guard {e : Expr} {c : Prop} [Decidable c] {t : TTx} (h : c → PT X e (upT X.K X.mg W t)) : PT X e (upT X.K X.mg W (fun σ H E Q => c ∧ t σ H E Q)) := by
  by_cases hc : c
  · exact pt_imp (h hc) fun σ' H' Q' ⟨σ, H, E, Q, rs, rh, q, kq, kx⟩ => ⟨σ, H, E, Q, rs, rh, q.2, kq, kx⟩
  · exact ⟨fun pins s σ' H' Q' I ⟨σ, H, E, Q, rs, rh, q, kq, kx⟩ => (hc q.1).elim⟩
theorem ut_bad {e : Expr} {t : TTx} (h : ∀ σ H E Q, ¬ t σ H E Q) : PT X e (upT X.K X.mg W t) := ⟨fun pins s σ' H' Q' I ⟨σ, H, E, Q, rs, rh, q, kq, kx⟩ => (h _ _ _ _ q).elim⟩
/-- a comparison's reading as a test -/
theorem ut_test {e : Expr} {t : TEx} (h : PT X e (tTest (upE X.K X.mg W t))) : PT X e (upT X.K X.mg W (fun σ H E Q => t σ H E fun x H1 => ∃ k, x = .bl k ∧ Q k H1)) :=
  pt_imp h fun σ' H' Q' ⟨σ, H, E, Q, rs, rh, q, kq, kx⟩ => ⟨σ, H, E, _, rs, rh, q, fun x T v H1 ⟨k, ek, hq⟩ rt rh1 k1 => by
    subst ek
    cases rt
    exact ⟨k, rfl, kq _ _ _ hq rh1 k1⟩, kx⟩
theorem q_cmp (un : X.A.units + 100 < cLine) {a b : Expr} {ta tb : TEx} {op : CmpOp} {pos : Pos} (ha : PE X a (upE X.K X.mg W ta)) (hb : PE X b (upE X.K X.mg W tb)) :
    PT X (.Compare a [op] [b] pos) (upT X.K X.mg W (fun σ H E Q => behindInMarks op b = false ∧ tBin (cOp op) ta tb σ H E fun x H1 => ∃ k, x = .bl k ∧ Q k H1)) := ut_guard fun h => ut_test (by
  refine pt_imp (pt_cmpR (op_c (by omega) op) ha hb h) fun σ' H' Q' q => ?_
  obtain ⟨σ, H, E, Q, rs, rh, q, kq, kx⟩ := q
  exact ⟨σ, H, E, _, rs, rh, q, fun x T v H1 hq rt rh1 k1 => ⟨σ, T, E, _, rs.keep k1.k, rh1, hq, fun y T2 u H2 hq2 rt2 rh2 k2 => ⟨T2, x, y, Q, rt.keep k2.k, rt2, rh2, hq2, kq.on (k1.trans k2)⟩, kx.on k1⟩, kx⟩)
theorem q_chain (un : X.A.units + 100 < cLine) {a b c : Expr} {ta tb tc : TEx} {op op' : CmpOp} {pos : Pos} (ha : PE X a (upE X.K X.mg W ta)) (hb : PE X b (upE X.K X.mg W tb)) (hc : PE X c (upE X.K X.mg W tc)) :
    PT X (.Compare a [op, op'] [b, c] pos) (upT X.K X.mg W (fun σ H E Q => lastMarks [op, op'] [b, c] = false ∧ tChainT (cOp op) (cOp op') ta tb tc σ H E fun x H1 => ∃ k, x = .bl k ∧ Q k H1)) := ut_guard fun h => ut_test (by
  refine pt_imp (pt_chain (op_c (by omega) op) (op_c (by omega) op') ha hb hc h) fun σ' H' Q' q => ?_
  obtain ⟨σ, H, E, Q, rs, rh, q, kq, kx⟩ := q
  refine ⟨σ, H, E, _, rs, rh, q, fun x T v H1 hq rt rh1 k1 => ?_, kx⟩
  refine ⟨σ, T, E, _, rs.keep k1.k, rh1, hq, fun y T2 u H2 hq2 rt2 rh2 k2 => ?_, kx.on k1⟩
  refine ⟨T2, x, y, _, rt.keep k2.k, rt2, rh2, hq2, fun z T3 z' H3 hq3 rt3 rh3 k3 => ?_⟩
  obtain ⟨k, rfl, q3⟩ := hq3
  cases rt3
  refine ⟨k, rfl, ?_⟩
  have kk := (k1.trans k2).trans k3
  cases k with
  | true =>
    rw [if_pos rfl] at q3 ⊢
    exact ⟨σ, T3, E, _, rs.keep kk.k, rh3, q3, fun w T4 w' H4 hq4 rt4 rh4 k4 => ⟨T4, y, w, Q, rt2.keep (k3.trans k4).k, rt4, rh4, hq4, kq.on (kk.trans k4)⟩, kx.on kk⟩
  | false =>
    rw [if_neg Bool.false_ne_true] at q3 ⊢
    exact kq _ _ _ _ q3 (.bl _) rh3 kk)
theorem q_not {a : Expr} {ta : TTx} {pos : Pos} (ha : PT X a (upT X.K X.mg W ta)) : PT X (.UnaryOp .Not a pos) (upT X.K X.mg W (fun σ H E Q => ta σ H E fun c H1 => Q (!c) H1)) :=
  pt_imp (pt_not ha) fun σ' H' Q' ⟨σ, H, E, Q, rs, rh, q, kq, kx⟩ => ⟨σ, H, E, _, rs, rh, q, fun b T H1 hq rh1 k1 => kq _ _ _ hq rh1 k1, kx⟩
theorem q_and {f : Expr → TTx} (hf : ∀ e, PT X e (upT X.K X.mg W (f e))) {pos : Pos} : ∀ l : List Expr, l ≠ [] → PW X (.BoolOp .And l pos) (upT X.K X.mg W (andT f l))
  | [], h => absurd rfl h
  | [a], _ => pw_and1 (hf a)
  | a :: b :: r, _ => pw_imp (pw_and (hf a) (q_and hf (b :: r) (by simp))) fun σ' H' Q' ⟨σ, H, E, Q, rs, rh, q, kq, kx⟩ => ⟨σ, H, E, _, rs, rh, q, fun c T H1 hq rh1 k1 => by
    cases c with
    | true => exact ⟨σ, T, E, Q, rs.keep k1.k, rh1, hq, kq.on k1, kx.on k1⟩
    | false => exact kq _ _ _ hq rh1 k1, kx⟩
theorem q_or {f : Expr → TTx} (hf : ∀ e, PT X e (upT X.K X.mg W (f e))) {pos : Pos} : ∀ l : List Expr, l ≠ [] → PW X (.BoolOp .Or l pos) (upT X.K X.mg W (orT f l))
  | [], h => absurd rfl h
  | [a], _ => pw_or1 (hf a)
  | a :: b :: r, _ => pw_imp (pw_or (hf a) (q_or hf (b :: r) (by simp))) fun σ' H' Q' ⟨σ, H, E, Q, rs, rh, q, kq, kx⟩ => ⟨σ, H, E, _, rs, rh, q, fun c T H1 hq rh1 k1 => by
    cases c with
    | false => exact ⟨σ, T, E, Q, rs.keep k1.k, rh1, hq, kq.on k1, kx.on k1⟩
    | true => exact kq _ _ _ hq rh1 k1, kx⟩
theorem q_andE {f : Expr → TTx} (hf : ∀ e, PT X e (upT X.K X.mg W (f e))) {pos : Pos} (l : List Expr) : PT X (.BoolOp .And l pos) (upT X.K X.mg W (andT f l)) := by
  cases l with
  | nil => exact ut_bad fun _ _ _ _ q => q
  | cons a r => exact (q_and hf (a :: r) (by simp)).pt
theorem q_orE {f : Expr → TTx} (hf : ∀ e, PT X e (upT X.K X.mg W (f e))) {pos : Pos} (l : List Expr) : PT X (.BoolOp .Or l pos) (upT X.K X.mg W (orT f l)) := by
  cases l with
  | nil => exact ut_bad fun _ _ _ _ q => q
  | cons a r => exact (q_or hf (a :: r) (by simp)).pt
theorem q_tru {a : Expr} {ta : TEx} (ha : PE X a (upE X.K X.mg W ta)) (he : ∀ whole, isTrue a X.env whole = (do let v ← whole; standAt a.pos; holding [v] (truthy v))) : PT X a (upT X.K X.mg W (tTru ta)) :=
  pt_imp (pt_truth ha he) fun σ' H' Q' ⟨σ, H, E, Q, rs, rh, q, kq, kx⟩ => ⟨σ, H, E, _, rs, rh, q, fun x T v H1 ⟨b, eb, hq⟩ rt rh1 k1 => ⟨b, tru_low rt rh1 eb, kq _ _ _ hq rh1 k1⟩, kx⟩

/-! ### what is walked -/
/-- items over trees and an iterator of the layer -/
def WalksT (K : PySem.W.Frag) (mg : Str → Option Value) (J : TIt) (T0 : TH) (H' : Hp) (J' : It) : Prop := ∀ i T H1, RH K mg T H1 → Stp T0 H' T H1 → J.still T →
  (J.items.length ≤ i → J'.stop i H1) ∧ ∀ x, J.items[i]? = some x → J'.go i H1 ∧ ∀ v H2, J'.yld i H1 v H2 → RT K H2 x v ∧ RH K mg T H2 ∧ Stp T H1 T H2
def upI (K : PySem.W.Frag) (mg : Str → Option Value) (W : WX) (t : TIx) : TI := fun σ' H' R' => ∃ σ H E R, RS K H' σ σ' ∧ RH K mg H H' ∧ t σ H E R ∧ (∀ J T J' H1, R J T → WalksT K mg J T H1 J' → RH K mg T H1 → Stp H H' T H1 → R' J' H1) ∧ KX K mg H H' E (fun c d H1 => W c d σ' H1)
theorem pi_imp {tg it : Expr} {t u : TI} (h : PI X tg it t) (i : ∀ σ H Q, u σ H Q → t σ H Q) : PI X tg it u := ⟨fun pins s σ H Q I q => h.run pins s σ H Q I (i _ _ _ q)⟩
theorem walks_ints {K : PySem.W.Frag} {mg : Str → Option Value} (lo : Int) (n : Nat) (T0 : TH) (H' : Hp) : WalksT K mg ⟨intsFrom lo n, fun _ => True⟩ T0 H' (Itr lo n) := fun i T H1 rh k _ => by
  have hl : (intsFrom lo n).length = n := by simp [intsFrom]
  refine ⟨fun h => by rw [hl] at h; exact h, fun x hx => ?_⟩
  have hi : i < n := by
    have := (List.getElem?_eq_some_iff.mp hx).1
    rw [hl] at this
    exact this
  refine ⟨hi, fun v H2 ⟨e1, e2⟩ => ?_⟩
  subst e1 e2
  have : x = .int (lo + i) := by
    simp only [intsFrom, List.getElem?_map, List.getElem?_range hi, Option.map_some, Option.some.injEq] at hx
    exact hx.symm
  subst this
  exact ⟨.int _, rh, .refl _⟩
theorem seqIt_items {x : TV} {H : TH} {J : TIt} (h : seqIt x H = some J) : ∃ t, seqOf H x = some (t, J.items) := by
  cases x <;> simp only [seqIt, reduceCtorEq] at h
  · cases h; exact ⟨_, rfl⟩
  · cases h; exact ⟨_, rfl⟩
  · split at h
    · rename_i a l hl
      cases h
      exact ⟨false, by simp only [seqOf, hl]⟩
    · cases h
/-- .. lie there as long as they must -/
theorem seqIt_low {K : PySem.W.Frag} {mg : Str → Option Value} {x : TV} {v : V} {T : TH} {H' : Hp} {J : TIt} (r : RT K H' x v) (rh : RH K mg T H') (h : seqIt x T = some J) :
    (∃ a, v = .ref a ∧ (∃ vs, SqT K H' a vs ∧ RTs K H' J.items vs)) ∨ ∃ a, v = .ref a ∧ (∃ vs, SqL K H' a vs ∧ RTs K H' J.items vs) ∧ ∀ T1 H1, RH K mg T1 H1 → Keep H' H1 → J.still T1 → ∃ vs, SqL K H1 a vs ∧ RTs K H1 J.items vs := by
  cases r with
  | tup h1 r1 =>
    simp only [seqIt, Option.some.injEq] at h; subst h
    exact .inl ⟨_, rfl, _, h1, r1⟩
  | rol h1 r1 =>
    simp only [seqIt, Option.some.injEq] at h; subst h
    exact .inr ⟨_, rfl, ⟨_, h1.l, r1⟩, fun T1 H1 _ k _ => ⟨_, (k.sqR h1).l, r1.keep k⟩⟩
  | ref a =>
    simp only [seqIt] at h
    split at h
    · rename_i l hl
      simp only [Option.some.injEq] at h; subst h
      obtain ⟨vs, h1, r1⟩ := rh a _ hl
      refine .inr ⟨a, rfl, ⟨vs, .of h1, r1⟩, fun T1 H1 rh1 k st => ?_⟩
      obtain ⟨ws, h2, r2⟩ := rh1 a _ st
      exact ⟨ws, .of h2, r2⟩
    · cases h
  | _ => cases h
theorem walks_list {K : PySem.W.Frag} {mg : Str → Option Value} {J : TIt} {T0 : TH} {H' : Hp} {a : Addr} (h : ∀ T1 H1, RH K mg T1 H1 → Keep H' H1 → J.still T1 → ∃ vs, SqL K H1 a vs ∧ RTs K H1 J.items vs) : WalksT K mg J T0 H' (Itl K a) := fun i T H1 rh k st => by
  obtain ⟨vs, hq, r⟩ := h T H1 rh k.k st
  refine ⟨fun hi => ⟨vs, hq, by rw [← r.length]; exact hi⟩, fun x hx => ?_⟩
  obtain ⟨v, hv, rv⟩ := r.get hx
  refine ⟨⟨vs, v, hq, hv⟩, fun w H2 ⟨e, hw⟩ => ?_⟩
  subst e
  rw [hw vs hq] at hv
  cases hv
  exact ⟨rv, rh, .refl _⟩
theorem walks_tup {K : PySem.W.Frag} {mg : Str → Option Value} {l : List TV} {st : TH → Prop} {T0 : TH} {H' : Hp} {a : Addr} {vs : List V} (hq : SqT K H' a vs) (r : RTs K H' l vs) : WalksT K mg ⟨l, st⟩ T0 H' (Itt K a) := fun i T H1 rh k _ => by
  have hq1 := k.k.sqT hq
  have r1 := r.keep k.k
  refine ⟨fun hi => ⟨vs, hq1, by rw [← r.length]; exact hi⟩, fun x hx => ?_⟩
  obtain ⟨v, hv, rv⟩ := r1.get hx
  refine ⟨⟨vs, v, hq1, hv⟩, fun w H2 ⟨e, hw⟩ => ?_⟩
  subst e
  rw [hw vs hq1] at hv
  cases hv
  exact ⟨rv, rh, .refl _⟩
/-- an iterator over a list that lies there, over a tuple -/
theorem it_list {pins : List (Addr × Obj)} {σ : L2.St} {H : Hp} {s : Shared} {tg : Expr} {R : It → Hp → Prop} {a : Addr} {xs : List V} (I : Inv X pins σ H s) (hq : SqL X.K H a xs) (q : R (Itl X.K a) H) : wpAny (model X.prog X.w) X.A (pyIter (.ref a)) (PIE X pins σ tg R) X.xe s := by
  obtain ⟨its, _, pl, _⟩ := I.list hq
  apply wpAny_pyIter_list pl.isList
  refine ⟨s.heap.objs.size, [s.heap.objs.size], _, _, H, rfl, I.kept (t' := s.toks) (fun _ _ z => Heap.get?_push_of_some _ z), turn_list a _, ⟨_, Heap.get?_push_size _ rfl, rfl, rfl⟩, ?_, q⟩
  intro b hb
  rw [List.mem_singleton.mp hb]
  exact I.fpOk (Nat.le_refl _) I.fresh
theorem it_tup {pins : List (Addr × Obj)} {σ : L2.St} {H : Hp} {s : Shared} {tg : Expr} {R : It → Hp → Prop} {a : Addr} {xs : List V} (I : Inv X pins σ H s) (hq : SqT X.K H a xs) (q : R (Itt X.K a) H) : wpAny (model X.prog X.w) X.A (pyIter (.ref a)) (PIE X pins σ tg R) X.xe s := by
  obtain ⟨its, _, pl, _⟩ := I.tuple hq
  apply wpAny_pyIter_tuple (show s.heap.IsTuple a its.toArray from pl)
  refine ⟨s.heap.objs.size, [s.heap.objs.size], _, _, H, rfl, I.kept (t' := s.toks) (fun _ _ z => Heap.get?_push_of_some _ z), turn_tuple a _, ⟨_, Heap.get?_push_size _ rfl, rfl, rfl⟩, ?_, q⟩
  intro b hb
  rw [List.mem_singleton.mp hb]
  exact I.fpOk (Nat.le_refl _) I.fresh
theorem i_plain {tg e : Expr} {te : TEx} (he : PE X e (upE X.K X.mg W te)) : PI X tg e (upI X.K X.mg W (plainI te)) := by
  refine ⟨fun pins s σ' H' R' I h => ?_⟩
  obtain ⟨σ, H, E, R, rs, rh, ⟨k, q⟩, kr, kx⟩ := h
  cases k with
  | seq =>
    refine thn (he.run pins s σ' H' (fun v H1 => ∃ T J, RH X.K X.mg T H1 ∧ Stp H H' T H1 ∧ R J T ∧ ((∃ a, v = .ref a ∧ (∃ vs, SqT X.K H1 a vs ∧ RTs X.K H1 J.items vs)) ∨ ∃ a, v = .ref a ∧ (∃ vs, SqL X.K H1 a vs ∧ RTs X.K H1 J.items vs) ∧ ∀ T1 H2, RH X.K X.mg T1 H2 → Keep H1 H2 → J.still T1 → ∃ vs, SqL X.K H2 a vs ∧ RTs X.K H2 J.items vs)) I ⟨σ, H, E, _, rs, rh, q, fun x T v H1 ⟨J, ej, hq⟩ rt rh1 k1 => ⟨T, J, rh1, k1, hq, seqIt_low rt rh1 ej⟩, kx⟩) fun v s1 ⟨x, H1, I1, r1, T, J, rh1, k1, hq, hh⟩ => ?_
    rcases hh with ⟨a, e, vs, hv, rv⟩ | ⟨a, e, ⟨vs, hv, rv⟩, hl⟩
    · subst e
      cases r1
      exact it_tup I1 hv (kr J T _ H1 hq (walks_tup (st := J.still) hv rv) rh1 k1)
    · subst e
      cases r1
      exact it_list I1 hv (kr J T _ H1 hq (walks_list hl) rh1 k1)
  | str =>
    refine (pi_str (tg := tg) he).run pins s σ' H' R' I ⟨σ, H, E, _, rs, rh, q, fun x T v H1 ⟨z, ez, hq⟩ rt rh1 k1 => ?_, kx⟩
    subst ez
    cases rt
    refine ⟨z, rfl, kr _ T _ H1 hq (fun i T2 H2 rh2 k2 _ => ?_) rh1 k1⟩
    have hl : (signsOf z).length = z.cps.size := by simp [signsOf]
    refine ⟨fun hi => by rw [hl] at hi; exact hi, fun x hx => ?_⟩
    have hi : i < z.cps.size := by
      have := (List.getElem?_eq_some_iff.mp hx).1
      rw [hl] at this
      exact this
    refine ⟨hi, fun v H3 ⟨e1, c, ec, ev⟩ => ?_⟩
    subst e1 ev
    have : x = .str ⟨#[c]⟩ := by
      simp only [signsOf, List.getElem?_map, Array.getElem?_toList, ec, Option.map_some, Option.some.injEq] at hx
      exact hx.symm
    subst this
    exact ⟨.str _, rh2, .refl _⟩
theorem ui_guard {tg e : Expr} {c : Prop} [Decidable c] {t : TIx} (h : c → PI X tg e (upI X.K X.mg W t)) : PI X tg e (upI X.K X.mg W (fun σ H E Q => c ∧ t σ H E Q)) := by
  by_cases hc : c
  · exact pi_imp (h hc) fun σ' H' Q' ⟨σ, H, E, Q, rs, rh, q, kq, kx⟩ => ⟨σ, H, E, Q, rs, rh, q.2, kq, kx⟩
  · exact ⟨fun pins s σ' H' Q' I ⟨σ, H, E, Q, rs, rh, q, kq, kx⟩ => (hc q.1).elim⟩
theorem i_range1 (ok : Ok X S G W) {fe : Expr → TEx} (hf : ∀ e, PE X e (upE X.K X.mg W (fe e))) {tg a : Expr} {p pos : Pos} (hg : Gl X "range") (hs : noStars [a] = true) :
    PI X tg (.Call (.Name "range" p) [a] [] pos) (upI X.K X.mg W (fun σ H E R => argsW fe [a] σ H E fun xs H1 => rng1 xs fun J => R J H1)) := by
  refine pi_imp (pi_range1 hg (ok.blt "range" (by decide +kernel)) (p_args hf hs) (starOne (stars_of hs a (by simp)))) fun σ' H' R' ⟨σ, H, E, R, rs, rh, q, kr, kx⟩ => ?_
  refine ⟨σ, H, E, _, rs, rh, q, fun xs T vs H1 hq rt rh1 k1 => ?_, kx⟩
  replace hq : rng1 xs (fun J => R J T) := hq
  unfold rng1 at hq
  split at hq
  · rename_i n
    obtain ⟨v, rfl, r⟩ := rts1 rt
    cases r
    exact ⟨n, rfl, hq.1.1, hq.1.2, kr _ _ _ _ hq.2 (walks_ints 0 _ _ _) rh1 k1⟩
  · exact hq.elim
theorem i_range2 (ok : Ok X S G W) {fe : Expr → TEx} (hf : ∀ e, PE X e (upE X.K X.mg W (fe e))) {tg a b : Expr} {p pos : Pos} (hg : Gl X "range") (hs : noStars [a, b] = true) :
    PI X tg (.Call (.Name "range" p) [a, b] [] pos) (upI X.K X.mg W (fun σ H E R => argsW fe [a, b] σ H E fun xs H1 => rng2 xs fun J => R J H1)) := by
  have h1 := starOne (es := [b]) (env := X.env) (stars_of hs a (by simp))
  have h2 := starOne (es := []) (env := X.env) (stars_of hs b (by simp))
  refine pi_imp (pi_range2 hg (ok.blt "range" (by decide +kernel)) (p_args hf hs) (by rw [h1, h2]; rfl) (by rw [h2]; rfl)) fun σ' H' R' ⟨σ, H, E, R, rs, rh, q, kr, kx⟩ => ?_
  refine ⟨σ, H, E, _, rs, rh, q, fun xs T vs H1 hq rt rh1 k1 => ?_, kx⟩
  replace hq : rng2 xs (fun J => R J T) := hq
  unfold rng2 at hq
  split at hq
  · rename_i i j
    obtain ⟨v, w, rfl, r, r'⟩ := rts2 rt
    cases r; cases r'
    exact ⟨i, j, rfl, ⟨hq.1.1, hq.1.2, hq.2.1.1, hq.2.1.2⟩, kr _ _ _ _ hq.2.2 (walks_ints i _ _ _) rh1 k1⟩
  · exact hq.elim
/-- a list that is walked: where it lies -/
theorem seqIt_lowL {K : PySem.W.Frag} {mg : Str → Option Value} {x : TV} {v : V} {T : TH} {H' : Hp} {J : TIt} {l : List TV} (r : RT K H' x v) (rh : RH K mg T H') (e : seqOf T x = some (false, l)) (h : seqIt x T = some J) :
    ∃ a, v = .ref a ∧ (∃ vs, SqL K H' a vs ∧ RTs K H' J.items vs) ∧ ∀ T1 H1, RH K mg T1 H1 → Keep H' H1 → J.still T1 → ∃ vs, SqL K H1 a vs ∧ RTs K H1 J.items vs := by
  cases r with
  | tup h1 r1 => cases e
  | rol h1 r1 =>
    simp only [seqIt, Option.some.injEq] at h; subst h
    exact ⟨_, rfl, ⟨_, h1.l, r1⟩, fun T1 H1 _ k _ => ⟨_, (k.sqR h1).l, r1.keep k⟩⟩
  | ref a =>
    simp only [seqIt] at h
    split at h
    · rename_i l' hl
      simp only [Option.some.injEq] at h; subst h
      obtain ⟨vs, h1, r1⟩ := rh a _ hl
      refine ⟨a, rfl, ⟨vs, .of h1, r1⟩, fun T1 H1 rh1 k st => ?_⟩
      obtain ⟨ws, h2, r2⟩ := rh1 a _ st
      exact ⟨ws, .of h2, r2⟩
    · cases h
  | _ => cases h
theorem seqIt_lowT {K : PySem.W.Frag} {x : TV} {v : V} {T : TH} {H' : Hp} {J : TIt} {l : List TV} (r : RT K H' x v) (e : seqOf T x = some (true, l)) (h : seqIt x T = some J) : ∃ a vs, v = .ref a ∧ SqT K H' a vs ∧ RTs K H' J.items vs := by
  cases r with
  | tup h1 r1 =>
    simp only [seqIt, Option.some.injEq] at h; subst h
    exact ⟨_, _, rfl, h1, r1⟩
  | rol h1 r1 => cases e
  | ref a =>
    simp only [seqOf] at e
    split at e <;> cases e
  | _ => cases h
theorem enum_get (l : List TV) (i : Nat) : (enumFrom l 0)[i]? = l[i]?.map fun x => .tup [.int (i : Nat), x] := by
  simp only [enumFrom, List.getElem?_map, List.getElem?_zipIdx, Nat.zero_add]
  cases l[i]? <;> rfl
theorem i_enum (ok : Ok X S G W) {fe : Expr → TEx} (hf : ∀ e, PE X e (upE X.K X.mg W (fe e))) {elts : List Expr} {kk : Nat} {tpos : Pos} {a : Expr} {p pos : Pos} (hg : Gl X "enumerate") (hs : noStars [a] = true) :
    PI X (.Tuple elts kk tpos) (.Call (.Name "enumerate" p) [a] [] pos) (upI X.K X.mg W (fun σ H E R => argsW fe [a] σ H E fun xs H1 => enumW xs H1 fun J => R J H1)) := by
  refine pi_imp (pi_enum hg (ok.blt "enumerate" (by decide +kernel)) (p_args hf hs) (starOne (stars_of hs a (by simp)))) fun σ' H' R' ⟨σ, H, E, R, rs, rh, q, kr, kx⟩ => ?_
  refine ⟨σ, H, E, _, rs, rh, q, fun xs T vs H1 hq rt rh1 k1 => ?_, kx⟩
  replace hq : enumW xs T (fun J => R J T) := hq
  unfold enumW at hq
  split at hq
  · rename_i x
    obtain ⟨v, rfl, r⟩ := rts1 rt
    obtain ⟨⟨t, l⟩, e, ht, J, ej, hq⟩ := hq
    have ht' : t = false := ht
    subst ht'
    obtain ⟨a', rfl, ⟨vs, hv, rv⟩, hl⟩ := seqIt_lowL r rh1 e ej
    refine ⟨a', vs, rfl, hv, kr _ _ _ _ hq (fun i T2 H2 rh2 k2 st => ?_) rh1 k1⟩
    obtain ⟨ws, hw, rw'⟩ := hl T2 H2 rh2 k2.k st
    have hlen : (enumFrom J.items 0).length = J.items.length := by simp [enumFrom]
    refine ⟨fun hi => ⟨ws, hw, by rw [← rw'.length, ← hlen]; exact hi⟩, fun y hy => ?_⟩
    have hy' : (enumFrom J.items 0)[i]? = some y := hy
    rw [enum_get] at hy'
    cases hz : J.items[i]? with
    | none => rw [hz] at hy'; cases hy'
    | some z =>
      rw [hz] at hy'
      simp only [Option.map_some, Option.some.injEq] at hy'
      subst hy'
      obtain ⟨u, hu, ru⟩ := rw'.get hz
      refine ⟨⟨ws, u, hw, hu⟩, fun v H3 ⟨c, x', e1, e2, e3, e4⟩ => ?_⟩
      subst e1 e3
      rw [e4 ws hw] at hu
      cases hu
      exact ⟨.tup (.of upd_same) (.cons (.int _) (.cons (ru.keep (.new e2)) .nil)), rh2.new e2, .new e2⟩
  · exact hq.elim
theorem i_zip (ok : Ok X S G W) {fe : Expr → TEx} (hf : ∀ e, PE X e (upE X.K X.mg W (fe e))) {elts : List Expr} {kk : Nat} {tpos : Pos} {a b : Expr} {p pos : Pos} (hg : Gl X "zip") (hs : noStars [a, b] = true) :
    PI X (.Tuple elts kk tpos) (.Call (.Name "zip" p) [a, b] [] pos) (upI X.K X.mg W (fun σ H E R => argsW fe [a, b] σ H E fun xs H1 => zipW xs H1 fun J => R J H1)) := by
  have hsb : noStars [b] = true := by
    simp only [noStars, List.all_cons, Bool.and_eq_true] at hs ⊢
    exact hs.2
  refine pi_imp (RZ.pi_zipA hg (ok.blt "zip" (by decide +kernel)) (p_args hf hs) (starOne (stars_of hs a (by simp))) (starNone (stars_of hsb))) fun σ' H' R' ⟨σ, H, E, R, rs, rh, q, kr, kx⟩ => ?_
  refine ⟨σ, H, E, _, rs, rh, q, fun xs T vs H1 hq rt rh1 k1 => ?_, kx⟩
  have zget : ∀ (l m : List TV) (i : Nat) (y : TV), ((l.zip m).map fun p => TV.tup [p.1, p.2])[i]? = some y → ∃ x z, l[i]? = some x ∧ m[i]? = some z ∧ y = .tup [x, z] := fun l m i y hy => by
    simp only [List.getElem?_map] at hy
    cases hz : (l.zip m)[i]? with
    | none => rw [hz] at hy; cases hy
    | some pr =>
      rw [hz] at hy
      simp only [Option.map_some, Option.some.injEq] at hy
      rw [List.getElem?_zip_eq_some] at hz
      exact ⟨_, _, hz.1, hz.2, hy.symm⟩
  have zlen : ∀ (l m : List TV) (i : Nat), ((l.zip m).map fun p => TV.tup [p.1, p.2]).length ≤ i → l.length ≤ i ∨ m.length ≤ i := fun l m i h => by
    simp only [List.length_map, List.length_zip] at h
    omega
  replace hq : zipW xs T (fun J => R J T) := hq
  unfold zipW at hq
  split at hq
  · rename_i x y
    obtain ⟨v, w, rfl, r, r'⟩ := rts2 rt
    obtain ⟨⟨t, l⟩, e, ⟨u, m⟩, e', ht, J, ej, J2, ej2, hq⟩ := hq
    have ht' : t = u := ht
    subst ht'
    cases t with
    | false =>
      obtain ⟨a1, rfl, ⟨vs, hv, rv⟩, hl⟩ := seqIt_lowL r rh1 e ej
      obtain ⟨b1, rfl, ⟨ws, hw, rw'⟩, hl2⟩ := seqIt_lowL r' rh1 e' ej2
      refine ⟨a1, b1, vs, ws, rfl, .inl ⟨hv, hw, kr _ _ _ _ hq (fun i T2 H2 rh2 k2 st => ?_) rh1 k1⟩⟩
      obtain ⟨vs2, hv2, rv2⟩ := hl T2 H2 rh2 k2.k st.1
      obtain ⟨ws2, hw2, rw2⟩ := hl2 T2 H2 rh2 k2.k st.2
      refine ⟨fun hi => ⟨vs2, ws2, hv2, hw2, by rw [← rv2.length, ← rw2.length]; exact zlen _ _ _ hi⟩, fun y hy => ?_⟩
      obtain ⟨x1, z1, g1, g2, rfl⟩ := zget _ _ _ _ hy
      obtain ⟨v1, h1, q1⟩ := rv2.get g1
      obtain ⟨w1, h2, q2⟩ := rw2.get g2
      refine ⟨⟨vs2, ws2, v1, w1, hv2, hw2, h1, h2⟩, fun v H3 ⟨c, x', y', e1, e2, e3, e4, e5⟩ => ?_⟩
      subst e1 e3
      rw [e4 vs2 hv2] at h1; cases h1
      rw [e5 ws2 hw2] at h2; cases h2
      exact ⟨.tup (.of upd_same) (.cons (q1.keep (.new e2)) (.cons (q2.keep (.new e2)) .nil)), rh2.new e2, .new e2⟩
    | true =>
      obtain ⟨a1, vs, rfl, hv, rv⟩ := seqIt_lowT r e ej
      obtain ⟨b1, ws, rfl, hw, rw'⟩ := seqIt_lowT r' e' ej2
      refine ⟨a1, b1, vs, ws, rfl, .inr ⟨hv, hw, kr _ _ _ _ hq (fun i T2 H2 rh2 k2 st => ?_) rh1 k1⟩⟩
      have hv2 := k2.k.sqT hv
      have hw2 := k2.k.sqT hw
      have rv2 := rv.keep k2.k
      have rw2 := rw'.keep k2.k
      refine ⟨fun hi => ⟨vs, ws, hv2, hw2, by rw [← rv2.length, ← rw2.length]; exact zlen _ _ _ hi⟩, fun y hy => ?_⟩
      obtain ⟨x1, z1, g1, g2, rfl⟩ := zget _ _ _ _ hy
      obtain ⟨v1, h1, q1⟩ := rv2.get g1
      obtain ⟨w1, h2, q2⟩ := rw2.get g2
      refine ⟨⟨vs, ws, v1, w1, hv2, hw2, h1, h2⟩, fun v H3 ⟨c, x', y', e1, e2, e3, e4, e5⟩ => ?_⟩
      subst e1 e3
      rw [e4 vs hv2] at h1; cases h1
      rw [e5 ws hw2] at h2; cases h2
      exact ⟨.tup (.of upd_same) (.cons (q1.keep (.new e2)) (.cons (q2.keep (.new e2)) .nil)), rh2.new e2, .new e2⟩
  · exact hq.elim
end
end TL


set_option Elab.async false
set_option linter.all false
set_option maxRecDepth 100000
/-! TL6f: targets, comprehensions. -/
namespace TL
open PySem PySem.Spec L2
def noX : TX := fun _ _ => False
theorem KX.no {K : PySem.W.Frag} {mg : Str → Option Value} {T : TH} {H : Hp} {E : XK} : KX K mg T H (fun _ _ => False) E := fun _ _ _ _ _ h => h.elim
/-- a target's reading lowered (it lets nothing out) -/
def upG (K : PySem.W.Frag) (mg : Str → Option Value) (t : TGx) : TG := fun v' σ' H' Q' => ∃ σ H Q x, RS K H' σ σ' ∧ RH K mg H H' ∧ RT K H' x v' ∧ t x σ H (fun _ _ => False) Q ∧ KS K mg H H' Q Q'
def upGs (K : PySem.W.Frag) (mg : Str → Option Value) (t : List TV → TSt → TH → TX → (TSt → TH → Prop) → Prop) : TGs := fun v' σ' H' Q' => ∃ σ H Q x, RS K H' σ σ' ∧ RH K mg H H' ∧ RTs K H' x v' ∧ t x σ H (fun _ _ => False) Q ∧ KS K mg H H' Q Q'
section
variable {X : Cx} {W : WX} {S : SC} {G : GE}
theorem pg_imp {e : Expr} {t u : TG} (h : PG X e t) (i : ∀ v σ H Q, u v σ H Q → t v σ H Q) : PG X e u := ⟨fun pins s σ H v w Q I r q => h.run pins s σ H v w Q I r (i _ _ _ _ q)⟩
theorem pgs_imp {e : List Expr} {t u : TGs} (h : PGs X e t) (i : ∀ v σ H Q, u v σ H Q → t v σ H Q) : PGs X e u := ⟨fun pins s σ H v w Q I r q => h.run pins s σ H v w Q I r (i _ _ _ _ q)⟩
theorem pg_bad {e : Expr} {t : TGx} (h : ∀ v σ H E Q, ¬ t v σ H E Q) : PG X e (upG X.K X.mg t) := ⟨fun pins s σ' H' v w Q' I r ⟨σ, H, Q, x, rs, rh, rt, q, ks⟩ => (h _ _ _ _ _ q).elim⟩
theorem pg_guard {e : Expr} {c : Prop} [Decidable c] {t : TGx} (h : c → PG X e (upG X.K X.mg t)) : PG X e (upG X.K X.mg (fun v σ H E Q => c ∧ t v σ H E Q)) := by
  by_cases hc : c
  · exact pg_imp (h hc) fun v' σ' H' Q' ⟨σ, H, Q, x, rs, rh, rt, q, ks⟩ => ⟨σ, H, Q, x, rs, rh, rt, q.2, ks⟩
  · exact pg_bad fun v σ H E Q q => hc q.1
theorem loc_of (ok : Ok X S G W) {x : Str} (h : locB S x = true) : Loc X.env.scope x ∧ (X.fn x = true ∨ X.env.scope.names.lookup x = some .local) := by
  rw [ok.sc, ok.fn]
  unfold locB at h
  split at h
  · rename_i e; exact ⟨.inl e, .inr e⟩
  · rename_i e; exact ⟨.inr e, .inl h⟩
  · cases h
theorem g_name (ok : Ok X S G W) (x : Str) (pos : Pos) : PG X (.Name x pos) (upG X.K X.mg (match idx S.N x with
    | some i => fun v σ H _ Q => locB S x = true ∧ Q (σ.set i (some v)) H
    | none => fun _ _ _ _ _ => False)) := by
  split
  · rename_i i hi
    refine pg_guard (t := fun v σ H _ Q => Q (σ.set i (some v)) H) fun h => ?_
    obtain ⟨h1, h2⟩ := loc_of ok h
    refine pg_imp (pg_name (by rw [ok.n]; exact ok.nd) (by rw [ok.n]; exact idx_some hi) h1 h2) fun v' σ' H' Q' ⟨σ, H, Q, y, rs, rh, rt, q, ks⟩ => ks _ _ _ _ q (rs.set i rt) rh (.refl _)
  · exact pg_bad fun _ _ _ _ _ q => q
theorem agOne {e : Expr} {es : List Expr} {env : Env} (h : isStar e = false) : assignEach (e :: es) env = (false, assign e env) :: assignEach es env := by
  cases e <;> first | rfl | (exact absurd h (by simp [isStar]))
theorem agLen : ∀ {es : List Expr} {env : Env}, noStars es = true → (assignEach es env).length = es.length ∧ (assignEach es env).findIdx? (·.1) = none
  | [], _, _ => ⟨rfl, rfl⟩
  | e :: es, env, h => by
    have hs := stars_of h e List.mem_cons_self
    have hr : noStars es = true := by
      simp only [noStars, List.all_cons, Bool.and_eq_true] at h ⊢
      exact h.2
    obtain ⟨a, b⟩ := agLen (es := es) (env := env) hr
    rw [agOne hs]
    refine ⟨by simp [a], ?_⟩
    rw [List.findIdx?_cons]
    simp only [Bool.false_eq_true, if_false, b]
    rfl
theorem g_each {g : Expr → TGx} (hg : ∀ e, PG X e (upG X.K X.mg (g e))) : ∀ {ts : List Expr}, noStars ts = true → PGs X ts (upGs X.K X.mg (tgsW g ts))
  | [], _ => pgs_imp pgs_nil fun v' σ' H' Q' ⟨σ, H, Q, x, rs, rh, rt, q, ks⟩ => by
    cases rt with
    | nil => exact ⟨rfl, ks _ _ _ _ q rs rh (.refl _)⟩
    | cons => exact q.elim
  | t :: ts, h => by
    have hr : noStars ts = true := by
      simp only [noStars, List.all_cons, Bool.and_eq_true] at h ⊢
      exact h.2
    refine pgs_imp (pgs_cons (hg t) (g_each hg hr) (by rw [agOne (stars_of h t List.mem_cons_self)]; rfl)) fun v' σ' H' Q' ⟨σ, H, Q, x, rs, rh, rt, q, ks⟩ => ?_
    cases rt with
    | nil => exact q.elim
    | @cons y ys w ws a b =>
      exact ⟨w, ws, rfl, σ, H, _, y, rs, rh, a, q, fun σ1 T σ1' H1 hq rs1 rh1 k1 => ⟨σ1, T, Q, ys, rs1, rh1, b.keep k1.k, hq, ks.on k1⟩⟩
theorem g_tup (hc : X.calm = true) {g : Expr → TGx} (hg : ∀ e, PG X e (upG X.K X.mg (g e))) {ts : List Expr} {k : Nat} {pos : Pos} (hs : noStars ts = true) :
    PG X (.Tuple ts k pos) (upG X.K X.mg (fun v σ H E Q => ∃ l, v = .tup l ∧ l.length = ts.length ∧ tgsW g ts l σ H E Q)) := by
  obtain ⟨h1, h2⟩ := agLen (es := ts) (env := X.env) hs
  refine pg_imp (pg_tup hc (g_each hg hs) h1 h2) fun v' σ' H' Q' ⟨σ, H, Q, x, rs, rh, rt, ⟨l, e, hl, q⟩, ks⟩ => ?_
  subst e
  cases rt with
  | tup a b => exact ⟨_, _, rfl, a, by rw [← b.length]; exact hl, σ, H, Q, l, rs, rh, b, q, ks⟩
/-- o[i] = v by values -/
def LSet (K : PySem.W.Frag) (mg : Str → Option Value) : TSet := fun o' i' v' H' Q' => ∃ T o i v Q, RT K H' o o' ∧ RT K H' i i' ∧ RT K H' v v' ∧ RH K mg T H' ∧ setOp o i v T Q ∧ ∀ T1 H1, Q T1 → RH K mg T1 H1 → Stp T H' T1 H1 → Q' H1
theorem set_s (hu : X.A.units + 1 < cLine) : PSet X (LSet X.K X.mg) := by
  intro pins s σ H o' i' v' ov iv u Q' I ro ri rv h
  obtain ⟨T, o, i, v, Q, to, ti, tv, rh, h, kq⟩ := h
  unfold setOp at h
  split at h
  · rename_i a
    cases to
    split at h
    · rename_i l hl
      obtain ⟨k, j, rfl, hj, q⟩ := h
      cases ti
      obtain ⟨vs, h1, r1⟩ := rh a _ hl
      have kp : Keep H (upd H a (.lst (vs.set j v'))) := .put h1 (fun _ z => by cases z) (fun _ _ z => by cases z)
      exact set_list pins s σ H _ _ v' ov iv u Q' I ro ri rv ⟨a, vs, k, j, rfl, rfl, h1, by rw [← r1.length]; exact hj, kq _ _ q (rh.put kp ⟨_, upd_same, (r1.set tv j).keep kp⟩) (.put hl kp)⟩
    · rename_i kvs hk
      obtain ⟨k, ek, hz, q⟩ := h
      have e2 := key_low ti ek
      subst e2
      obtain ⟨vs, h1, r1⟩ := rh a _ hk
      have kp : Keep H (upd H a (.dK (putK vs k v'))) := .put h1 (fun _ z => by cases z) (fun _ _ z => by cases z)
      exact set_dict hu pins s σ H _ _ v' ov iv u Q' I ro ri rv ⟨a, _, rfl, .k h1 (by rw [← r1.length]; exact hz), kq _ _ q (rh.put kp ⟨_, upd_same, (r1.put k tv).keep kp⟩) (.put hk kp)⟩
    · exact h.elim
  · exact h.elim
theorem g_sub (un : X.A.units + 100 < cLine) (tk : ∃ W : WX, True) {o i : Expr} {to ti : TEx} {pos : Pos} (ho : PE X o (upE X.K X.mg W to)) (hi : PE X i (upE X.K X.mg W ti)) (hs : isSimpleIx i = true) :
    PG X (.Subscript o i pos) (upG X.K X.mg (fun v σ H E Q => to σ H E fun ov H1 => ti σ H1 E fun iv H2 => setOp ov iv v H2 fun H3 => Q σ H3)) := by
  refine pg_imp (pg_sub ho hi (set_s (by omega)) (by intro v; cases i <;> first | rfl | (exact absurd hs (by simp [isSimpleIx])))) fun v' σ' H' Q' ⟨σ, H, Q, x, rs, rh, rt, q, ks⟩ => ?_
  refine ⟨σ, H, _, _, rs, rh, q, fun ov T ov' H1 hq rt1 rh1 k1 => ?_, KX.no⟩
  refine ⟨σ, T, _, _, rs.keep k1.k, rh1, hq, fun iv T2 iv' H2 hq2 rt2 rh2 k2 => ?_, KX.no⟩
  exact ⟨T2, ov, iv, x, _, rt1.keep k2.k, rt2, rt.keep (k1.trans k2).k, rh2, hq2, fun T3 H3 hq3 rh3 k3 => ks _ _ _ _ hq3 (rs.keep ((k1.trans k2).trans k3).k) rh3 ((k1.trans k2).trans k3)⟩
/-! ### comprehensions -/
/-- as upG, and nothing but the slots vs is changed -/
def upGw (K : PySem.W.Frag) (mg : Str → Option Value) (vs : List Nat) (t : TGx) : TG := fun v' σ' H' Q' => ∃ σ H Q x, RS K H' σ σ' ∧ RH K mg H H' ∧ RT K H' x v' ∧ t x σ H (fun _ _ => False) Q ∧
  ∀ σ1 T σ1' H1, Q σ1 T → wipe σ1' vs = wipe σ' vs → RS K H1 σ1 σ1' → RH K mg T H1 → Stp H H' T H1 → Q' σ1' H1
def upGws (K : PySem.W.Frag) (mg : Str → Option Value) (vs : List Nat) (t : List TV → TSt → TH → TX → (TSt → TH → Prop) → Prop) : TGs := fun v' σ' H' Q' => ∃ σ H Q x, RS K H' σ σ' ∧ RH K mg H H' ∧ RTs K H' x v' ∧ t x σ H (fun _ _ => False) Q ∧
  ∀ σ1 T σ1' H1, Q σ1 T → wipe σ1' vs = wipe σ' vs → RS K H1 σ1 σ1' → RH K mg T H1 → Stp H H' T H1 → Q' σ1' H1
theorem wipe_set : ∀ {vs : List Nat} {σ : L2.St} {i : Nat} {o : Option V}, i ∈ vs → wipe (σ.set i o) vs = wipe σ vs
  | [], _, _, _, h => absurd h (by simp)
  | v :: vs, σ, i, o, h => by
    have gen : ∀ (vs : List Nat) (σ : L2.St), v = i → (wipe (σ.set i o) vs).set v none = (wipe σ vs).set v none := by
      intro vs
      induction vs with
      | nil => intro σ e; subst e; show (σ.set v o).set v none = σ.set v none; rw [List.set_set]
      | cons w ws ih =>
        intro σ e
        show ((wipe (σ.set i o) ws).set w none).set v none = ((wipe σ ws).set w none).set v none
        by_cases hw : w = v
        · subst hw; rw [List.set_set, List.set_set]; exact ih σ e
        · rw [List.set_comm _ _ hw, List.set_comm _ _ hw, ih σ e]
    show (wipe (σ.set i o) vs).set v none = (wipe σ vs).set v none
    by_cases hv : v = i
    · exact gen vs σ hv
    · rcases List.mem_cons.mp h with e | hm
      · exact absurd e.symm hv
      · rw [wipe_set hm]
theorem wipe_noop : ∀ {vs : List Nat} {σ : L2.St}, (∀ v ∈ vs, ∀ x : V, σ[v]? ≠ some (some x)) → wipe σ vs = σ
  | [], _, _ => rfl
  | v :: vs, σ, h => by
    show (wipe σ vs).set v none = σ
    rw [wipe_noop fun w hw => h w (List.mem_cons_of_mem _ hw)]
    apply List.ext_getElem?
    intro j
    by_cases hj : v = j
    · subst hj
      cases q : σ[v]? with
      | none =>
        have := List.getElem?_eq_none_iff.mp q
        rw [List.getElem?_eq_none (by simpa using this)]
      | some o =>
        have hl := (List.getElem?_eq_some_iff.mp q).1
        rw [List.getElem?_set_self hl]
        cases o with
        | none => rfl
        | some x => exact absurd q (h v List.mem_cons_self x)
    · rw [List.getElem?_set_ne hj]
theorem wipe_idem (σ : L2.St) (vs : List Nat) : wipe (wipe σ vs) vs = wipe σ vs := wipe_noop fun v hv x e => (wipe_some e).2 hv
theorem RS.wipe {K : PySem.W.Frag} {H : Hp} {σ : TSt} {σ' : L2.St} (r : RS K H σ σ') : ∀ vs : List Nat, RS K H (wipeT σ vs) (L2.wipe σ' vs)
  | [] => r
  | v :: vs => (RS.wipe r vs).forget v
theorem gw_name (ok : Ok X S G W) {vs : List Nat} (x : Str) (pos : Pos) (hv : nmIn S.N vs (.Name x pos) = true) : PG X (.Name x pos) (upGw X.K X.mg vs (match idx S.N x with
    | some i => fun v σ H _ Q => locB S x = true ∧ Q (σ.set i (some v)) H
    | none => fun _ _ _ _ _ => False)) := by
  simp only [nmIn] at hv
  split at hv
  · rename_i i hi
    have hm : i ∈ vs := by simpa using hv
    try simp only [hi]
    by_cases hl : locB S x = true
    · obtain ⟨h1, h2⟩ := loc_of ok hl
      refine pg_imp (pg_name (by rw [ok.n]; exact ok.nd) (by rw [ok.n]; exact idx_some hi) h1 h2) fun v' σ' H' Q' ⟨σ, H, Q, y, rs, rh, rt, q, ks⟩ => ks _ _ _ _ q.2 (wipe_set hm) (rs.set i rt) rh (.refl _)
    · exact ⟨fun pins s σ' H' v w Q' I r ⟨σ, H, Q, y, rs, rh, rt, q, ks⟩ => absurd q.1 hl⟩
  · cases hv
theorem gw_each {g : Expr → TGx} {vs : List Nat} {N : List Str} (hg : ∀ e, nmIn N vs e = true → PG X e (upGw X.K X.mg vs (g e))) : ∀ {ts : List Expr}, noStars ts = true → ts.all (nmIn N vs) = true → PGs X ts (upGws X.K X.mg vs (tgsW g ts))
  | [], _, _ => pgs_imp pgs_nil fun v' σ' H' Q' ⟨σ, H, Q, x, rs, rh, rt, q, ks⟩ => by
    cases rt with
    | nil => exact ⟨rfl, ks _ _ _ _ q rfl rs rh (.refl _)⟩
    | cons => exact q.elim
  | t :: ts, h, hv => by
    have hr : noStars ts = true := by
      simp only [noStars, List.all_cons, Bool.and_eq_true] at h ⊢
      exact h.2
    rw [List.all_cons, Bool.and_eq_true] at hv
    refine pgs_imp (pgs_cons (hg t hv.1) (gw_each hg hr hv.2) (by rw [agOne (stars_of h t List.mem_cons_self)]; rfl)) fun v' σ' H' Q' ⟨σ, H, Q, x, rs, rh, rt, q, ks⟩ => ?_
    cases rt with
    | nil => exact q.elim
    | @cons y ys w ws a b =>
      exact ⟨w, ws, rfl, σ, H, _, y, rs, rh, a, q, fun σ1 T σ1' H1 hq hw rs1 rh1 k1 => ⟨σ1, T, Q, ys, rs1, rh1, b.keep k1.k, hq, fun σ2 T2 σ2' H2 hq2 hw2 rs2 rh2 k2 => ks _ _ _ _ hq2 (hw2.trans hw) rs2 rh2 (k1.trans k2)⟩⟩
theorem gw_tup (hc : X.calm = true) {g : Expr → TGx} {vs : List Nat} {N : List Str} (hg : ∀ e, nmIn N vs e = true → PG X e (upGw X.K X.mg vs (g e))) {ts : List Expr} {k : Nat} {pos : Pos} (hs : noStars ts = true) (hv : ts.all (nmIn N vs) = true) :
    PG X (.Tuple ts k pos) (upGw X.K X.mg vs (fun v σ H E Q => ∃ l, v = .tup l ∧ l.length = ts.length ∧ tgsW g ts l σ H E Q)) := by
  obtain ⟨h1, h2⟩ := agLen (es := ts) (env := X.env) hs
  refine pg_imp (pg_tup hc (gw_each hg hs hv) h1 h2) fun v' σ' H' Q' ⟨σ, H, Q, x, rs, rh, rt, ⟨l, e, hl, q⟩, ks⟩ => ?_
  subst e
  cases rt with
  | tup a b => exact ⟨_, _, rfl, a, by rw [← b.length]; exact hl, σ, H, Q, l, rs, rh, b, q, ks⟩
theorem RH.other {K : PySem.W.Frag} {mg : Str → Option Value} {T : TH} {H : Hp} {p : Addr} {o : HO} (r : RH K mg T H) (h : T p = none) (k : Keep H (upd H p o)) : RH K mg T (upd H p o) := fun a u e => by
  have ne : a ≠ p := fun z => by rw [z, h] at e; cases e
  exact (r a u e).keep (upd_ne ne) k
theorem RH.know {K : PySem.W.Frag} {mg : Str → Option Value} {T : TH} {H : Hp} {p : Addr} {t : TO} (r : RH K mg T H) (w : RO K mg H p t) : RH K mg (tupd T p t) H := fun a u e => by
  by_cases ne : a = p
  · subst ne
    rw [tupd_same] at e; cases e
    exact w
  · rw [tupd_ne ne] at e
    exact r a u e
theorem Stp.hide {T T1 : TH} {H H1 : Hp} {p : Addr} {o : HO} (s : Stp T H T1 H1) (h : H p = none) (k : Keep H1 (upd H1 p o)) : Stp T H T1 (upd H1 p o) := ⟨s.k.trans k, fun a ht n => by
  have ne : a ≠ p := fun z => n (by rw [z]; exact h)
  obtain ⟨h1, e1⟩ := s.fr a ht n
  exact ⟨h1, by rw [upd_ne ne]; exact e1⟩⟩
theorem Stp.learn {T T1 : TH} {H H1 : Hp} {p : Addr} {t : TO} (s : Stp T H T1 H1) (h : H p = none) : Stp T H (tupd T1 p t) H1 := ⟨s.k, fun a ht n => by
  have ne : a ≠ p := fun z => n (by rw [z]; exact h)
  obtain ⟨h1, e1⟩ := s.fr a ht n
  exact ⟨by rw [tupd_ne ne]; exact h1, e1⟩⟩
theorem lc_low {K : PySem.W.Frag} {mg : Str → Option Value} {W0 : WX} {wi : TIx} {g : TGx} {tt : TTx} {te : TEx} {vs : List Nat} {σ' : L2.St} {H' : Hp} {Q' : VK} (h : upE K mg W (tLcT wi g tt te vs) σ' H' Q') :
    tLc (upI K mg W wi) (upGw K mg vs g) (upT K mg W0 tt) (upE K mg W0 te) vs σ' H' Q' := by
  obtain ⟨σ, H, E, Q, rs, rh, q, kq, kx⟩ := h
  refine ⟨σ, H, E, _, rs, rh, q, fun J T J' H1 hq hw rh1 k1 D hD => ?_, kx⟩
  refine ⟨fun i m Hc => ∃ T2 acc accs, m = J.items.length - i ∧ i ≤ J.items.length ∧ RH K mg T2 Hc ∧ Stp T H1 T2 Hc ∧ Hc D = some (.lst accs) ∧ RTs K Hc acc accs ∧ T2 D = none ∧
    lcGo J.still g tt te (wipeT σ vs) (fun l H2 => ∀ p, H2 p = none → Q (.ref p) (tupd H2 p (.lst l))) acc (J.items.drop i) T2, ⟨_, T, [], [], rfl, Nat.zero_le _, rh1.new hD, .new hD, upd_same, .nil, rh1.free hD, hq⟩, ?_⟩
  rintro i m Hc ⟨T2, acc, accs, rfl, hi, rh2, st2, eD, ra, tD, go⟩
  cases hz : J.items[i]? with
  | none =>
    have hlen : J.items.length ≤ i := List.getElem?_eq_none_iff.mp hz
    rw [List.drop_eq_nil_of_le hlen] at go
    obtain ⟨hs, fin⟩ := go
    have stA := k1.trans st2
    have hD0 : H D = none ∨ True := .inr True.intro
    refine .inl ⟨(hw i T2 Hc rh2 st2 hs).1 hlen, kq _ _ _ _ (fin D tD) (.ref D) (rh2.know ⟨accs, eD, ra⟩) ⟨stA.k, fun a ht n => ?_⟩⟩
    have ne : a ≠ D := fun z => by
      subst z
      obtain ⟨_, e1⟩ := k1.fr a ht n
      rw [hD] at e1
      exact n e1.symm
    obtain ⟨h1, e1⟩ := stA.fr a ht n
    exact ⟨by rw [tupd_ne ne]; exact h1, e1⟩
  | some x =>
    have hlt : i < J.items.length := (List.getElem?_eq_some_iff.mp hz).1
    rw [List.drop_eq_getElem_cons hlt] at go
    have ex : J.items[i] = x := (List.getElem?_eq_some_iff.mp hz).2
    rw [ex] at go
    obtain ⟨hs, go⟩ := go
    obtain ⟨g1, g2⟩ := (hw i T2 Hc rh2 st2 hs).2 x hz
    refine .inr ⟨g1, fun Hn => ∃ T2 acc accs, RH K mg T2 Hn ∧ Stp T H1 T2 Hn ∧ Hn D = some (.lst accs) ∧ RTs K Hn acc accs ∧ T2 D = none ∧
      lcGo J.still g tt te (wipeT σ vs) (fun l H2 => ∀ p, H2 p = none → Q (.ref p) (tupd H2 p (.lst l))) acc (J.items.drop (i + 1)) T2, ?_, ?_⟩
    · rintro Hn ⟨T3, acc, accs, a1, a2, a3, a4, a5, a6⟩
      exact ⟨J.items.length - (i + 1), by omega, T3, acc, accs, rfl, hlt, a1, a2, a3, a4, a5, a6⟩
    · intro v H2 hy
      obtain ⟨rx, rh3, s3⟩ := g2 v H2 hy
      have sA := st2.trans s3
      obtain ⟨tD3, eD3⟩ := s3.fr D tD (by rw [eD]; simp)
      refine ⟨wipeT σ vs, T2, _, x, (rs.keep ((k1.trans sA).k)).wipe vs, rh3, rx, go, fun σ1 T3 σ1' H3 hq3 hwp rs1 rh4 s4 => ⟨hwp.trans (wipe_idem _ _), σ1, T3, _, _, rs1, rh4, hq3, fun b T4 H4 hq4 rh5 s5 => ?_, KX.no⟩⟩
      have sB := (sA.trans s4).trans s5
      have sL := s4.trans s5
      obtain ⟨tD4, eD4⟩ := sL.fr D tD3 (by rw [eD3, eD]; simp)
      cases b with
      | false =>
        simp only [Bool.false_eq_true, if_false] at hq4 ⊢
        exact ⟨T4, acc, accs, rh5, sB, by rw [eD4, eD3, eD], ra.keep ((s3.trans sL).k), tD4, hq4⟩
      | true =>
        simp only [if_true] at hq4 ⊢
        refine ⟨σ1, T4, _, _, rs1.keep s5.k, rh5, hq4, fun y T5 v' H5 ⟨hz5, hq5⟩ rt5 rh6 s6 => ?_, KX.no⟩
        obtain ⟨tD5, eD5⟩ := s6.fr D tD4 (by rw [eD4, eD3, eD]; simp)
        have eD6 : H5 D = some (.lst accs) := by rw [eD5, eD4, eD3, eD]
        have kp : Keep H5 (upd H5 D (.lst (accs ++ [v']))) := .put eD6 (fun _ z => by cases z) (fun _ _ z => by cases z)
        have ra5 : RTs K H5 acc accs := ra.keep (((s3.trans sL).trans s6).k)
        exact ⟨accs, eD6, by rw [← ra5.length]; exact hz5, T5, acc ++ [y], accs ++ [v'], rh6.other tD5 kp, (sB.trans s6).hide hD kp, upd_same, (ra5.append (.cons rt5 .nil)).keep kp, tD5, hq5⟩
end
end TL


set_option Elab.async false
set_option linter.all false
set_option maxRecDepth 100000
/-! TL6g: statements. -/
namespace TL
open PySem PySem.Spec L2
theorem KD.x {K : PySem.W.Frag} {mg : Str → Option Value} {W : WX} {T0 : TH} {H : Hp} {D : TEnds} {D' : Ends} {σ : TSt} {σ' : L2.St} (kd : KD K mg W T0 H D D') (rs : RS K H σ σ') : KX K mg T0 H (fun e T => D.ex e σ T) (fun c d H1 => W c d σ' H1) :=
  fun e T c d H1 he rx rh st => kd.ex e σ T c d σ' H1 he (rs.keep st.k) rx rh st
section
variable {X : Cx} {W : WX} {S : SC} {G : GE}
theorem us_guard {e : Stmt} {c : Prop} [Decidable c] {t : TSx} (h : c → PS X e (upS X.K X.mg W t)) : PS X e (upS X.K X.mg W (fun D σ H => c ∧ t D σ H)) := by
  by_cases hc : c
  · exact ps_imp (h hc) fun D' σ' H' ⟨σ, H, D, rs, rh, q, kd⟩ => ⟨σ, H, D, rs, rh, q.2, kd⟩
  · exact ⟨fun pins s σ' H' D' I ⟨σ, H, D, rs, rh, q, kd⟩ => (hc q.1).elim⟩
theorem us_bad {e : Stmt} {t : TSx} (h : ∀ D σ H, ¬ t D σ H) : PS X e (upS X.K X.mg W t) := ⟨fun pins s σ' H' D' I ⟨σ, H, D, rs, rh, q, kd⟩ => (h _ _ _ q).elim⟩
theorem s_block {f : Stmt → TSx} (hf : ∀ st, PS X st (upS X.K X.mg W (f st))) : ∀ l : List Stmt, PSs X l (upS X.K X.mg W (blockW f l))
  | [] => pss_imp pss_nil fun D' σ' H' ⟨σ, H, D, rs, rh, q, kd⟩ => kd.nx _ _ _ _ q rs rh (.refl _)
  | st :: r => pss_imp (pss_cons (hf st) (s_block hf r)) fun D' σ' H' ⟨σ, H, D, rs, rh, q, kd⟩ =>
    ⟨σ, H, _, rs, rh, q, ⟨fun σ1 T σ1' H1 hq rs1 rh1 k1 => ⟨σ1, T, D, rs1, rh1, hq, kd.on k1⟩, kd.rt, kd.bk, kd.ct, kd.ex⟩⟩
theorem s_ret {e : Expr} {te : TEx} {pos : Pos} (he : PE X e (upE X.K X.mg W te)) : PS X (.Return (some e) pos) (upS X.K X.mg W (fun D σ H => te σ H (fun x H1 => D.ex x σ H1) D.rt)) :=
  ps_imp (ps_ret he) fun D' σ' H' ⟨σ, H, D, rs, rh, q, kd⟩ => ⟨σ, H, _, _, rs, rh, q, kd.rt, kd.x rs⟩
theorem noswap {e : Expr} {t : Option Expr} {l : Nat} {env : Env} (h : isComp e = false) : swapsWith e t l env = pure false := by
  cases e <;> first | rfl | (exact absurd h (by simp [isComp]))
theorem s_expr {e : Expr} {te : TEx} {pos : Pos} (h : isComp e = false) (he : PE X e (upE X.K X.mg W te)) : PS X (.Expr e pos) (upS X.K X.mg W (fun D σ H => te σ H (fun x H1 => D.ex x σ H1) fun _ H1 => D.nx σ H1)) :=
  ps_imp (ps_expr he (noswap h)) fun D' σ' H' ⟨σ, H, D, rs, rh, q, kd⟩ => ⟨σ, H, _, _, rs, rh, q, fun x T v H1 hq _ rh1 k1 => kd.nx _ _ _ _ hq (rs.keep k1.k) rh1 k1, kd.x rs⟩
theorem s_if {c : Expr} {a b : List Stmt} {tc : TTx} {ta tb : TSx} {pos : Pos} (hc : PT X c (upT X.K X.mg W tc)) (ha : PSs X a (upS X.K X.mg W ta)) (hb : PSs X b (upS X.K X.mg W tb)) :
    PS X (.If c a b pos) (upS X.K X.mg W (fun D σ H => tc σ H (fun x H1 => D.ex x σ H1) fun k H1 => if k = true then ta D σ H1 else tb D σ H1)) :=
  ps_imp (ps_if hc ha hb) fun D' σ' H' ⟨σ, H, D, rs, rh, q, kd⟩ => ⟨σ, H, _, _, rs, rh, q, fun k T H1 hq rh1 k1 => by
    cases k with
    | true => exact ⟨σ, T, D, rs.keep k1.k, rh1, hq, kd.on k1⟩
    | false => exact ⟨σ, T, D, rs.keep k1.k, rh1, hq, kd.on k1⟩, kd.x rs⟩
theorem s_while (po : PassesOwn (model X.prog X.w) X.A X.env X.xe) {c : Expr} {b : List Stmt} {tc : TTx} {tb : TSx} {pos : Pos} (hc : PT X c (upT X.K X.mg W tc)) (hb : PSs X b (upS X.K X.mg W tb)) :
    PS X (.While c b [] pos) (upS X.K X.mg W (fun D σ H => ∃ n, whileGo tc tb D n σ H)) :=
  ps_imp (ps_while po hc hb) fun D' σ' H' ⟨σ, H, D, rs, rh, ⟨n, q⟩, kd⟩ => by
    refine ⟨fun m σ1' H1 => ∃ σ1 T1, RS X.K H1 σ1 σ1' ∧ RH X.K X.mg T1 H1 ∧ Stp H H' T1 H1 ∧ whileGo tc tb D m σ1 T1, ⟨n, σ, H, rs, rh, .refl _, q⟩, ?_⟩
    rintro m σ1' H1 ⟨σ1, T1, rs1, rh1, k1, q1⟩
    cases m with
    | zero => exact q1.elim
    | succ m =>
      have kd1 := kd.on k1
      refine ⟨σ1, T1, _, _, rs1, rh1, q1, fun k T2 H2 hq rh2 k2 => ?_, kd1.x rs1⟩
      cases k with
      | false =>
        simp only [Bool.false_eq_true, if_false] at hq ⊢
        exact kd1.nx _ _ _ _ hq (rs1.keep k2.k) rh2 k2
      | true =>
        simp only [if_true] at hq ⊢
        have kd2 := kd1.on k2
        refine ⟨fun σ2' H3 => ∃ σ2 T3, RS X.K H3 σ2 σ2' ∧ RH X.K X.mg T3 H3 ∧ Stp H H' T3 H3 ∧ whileGo tc tb D m σ2 T3, fun σ2' H3 hn => ⟨m, Nat.lt_succ_self m, hn⟩, ?_⟩
        have kk := k1.trans k2
        exact ⟨σ1, T2, _, rs1.keep k2.k, rh2, hq, ⟨fun σ2 T3 σ2' H3 hq rs3 rh3 k3 => ⟨σ2, T3, rs3, rh3, kk.trans k3, hq⟩, kd2.rt, kd2.nx, fun σ2 T3 σ2' H3 hq rs3 rh3 k3 => ⟨σ2, T3, rs3, rh3, kk.trans k3, hq⟩, kd2.ex⟩⟩
theorem noset {it : Expr} {env : Env} (h : stepE.isSet it = false) : ∀ x, foldedSetIterable it env x = pure x := by
  intro x
  cases it <;> first | rfl | (exact absurd h (by simp [stepE.isSet]))
theorem s_for (po : PassesOwn (model X.prog X.w) X.A X.env X.xe) (hc : X.calm = true) {tg it : Expr} {b : List Stmt} {wi : TIx} {g : TGx} {tb : TSx} {pos : Pos} (hi : PI X tg it (upI X.K X.mg W wi)) (hg : PG X tg (upG X.K X.mg g)) (hb : PSs X b (upS X.K X.mg W tb)) (hs : stepE.isSet it = false) :
    PS X (.For tg it b [] pos) (upS X.K X.mg W (fun D σ H => wi σ H (fun x H1 => D.ex x σ H1) fun J H1 => forGo J.still g tb D J.items σ H1)) :=
  ps_imp (ps_for po hc hi hg hb (noset hs)) fun D' σ' H' ⟨σ, H, D, rs, rh, q, kd⟩ => by
    refine ⟨σ, H, _, _, rs, rh, q, fun J T J' H1 hq hw rh1 k1 => ?_, kd.x rs⟩
    refine ⟨fun i m σ1' Hc => ∃ σ1 T1, m = J.items.length - i ∧ i ≤ J.items.length ∧ RS X.K Hc σ1 σ1' ∧ RH X.K X.mg T1 Hc ∧ Stp T H1 T1 Hc ∧ forGo J.still g tb D (J.items.drop i) σ1 T1, ⟨_, σ, T, rfl, Nat.zero_le _, rs.keep k1.k, rh1, .refl _, hq⟩, ?_⟩
    rintro i m σ1' Hc ⟨σ1, T1, rfl, hi', rs1, rh2, k2, go⟩
    have kd1 := kd.on (k1.trans k2)
    cases hz : J.items[i]? with
    | none =>
      have hlen : J.items.length ≤ i := List.getElem?_eq_none_iff.mp hz
      rw [List.drop_eq_nil_of_le hlen] at go
      exact .inl ⟨(hw i T1 Hc rh2 k2 go.1).1 hlen, kd1.nx _ _ _ _ go.2 rs1 rh2 (.refl _)⟩
    | some x =>
      have hlt : i < J.items.length := (List.getElem?_eq_some_iff.mp hz).1
      rw [List.drop_eq_getElem_cons hlt, (List.getElem?_eq_some_iff.mp hz).2] at go
      obtain ⟨hs, go⟩ := go
      obtain ⟨g1, g2⟩ := (hw i T1 Hc rh2 k2 hs).2 x hz
      refine .inr ⟨g1, fun σ2' Hn => ∃ σ2 T2, RS X.K Hn σ2 σ2' ∧ RH X.K X.mg T2 Hn ∧ Stp T H1 T2 Hn ∧ forGo J.still g tb D (J.items.drop (i + 1)) σ2 T2, ?_, ?_⟩
      · rintro σ2' Hn ⟨σ2, T2, a1, a2, a3, a4⟩
        exact ⟨J.items.length - (i + 1), by omega, σ2, T2, rfl, hlt, a1, a2, a3, a4⟩
      · intro v H2 hy
        obtain ⟨rx, rh3, k3⟩ := g2 v H2 hy
        refine ⟨σ1, T1, _, x, rs1.keep k3.k, rh3, rx, go, fun σ2 T2 σ2' H3 hq2 rs2 rh4 k4 => ?_⟩
        have kB := (k2.trans k3).trans k4
        have kd2 := kd.on (k1.trans kB)
        exact ⟨σ2, T2, _, rs2, rh4, hq2, ⟨fun σ3 T3 σ3' H4 hq3 rs3 rh5 k5 => ⟨σ3, T3, rs3, rh5, kB.trans k5, hq3⟩, kd2.rt, kd2.nx, fun σ3 T3 σ3' H4 hq3 rs3 rh5 k5 => ⟨σ3, T3, rs3, rh5, kB.trans k5, hq3⟩, kd2.ex⟩⟩
theorem s_set (ok : Ok X S G W) {x : Str} {i : Nat} {e : Expr} {te : TEx} {p pos : Pos} (hi : idx S.N x = some i) (hl : locB S x = true) (h : isComp e = false) (he : PE X e (upE X.K X.mg W te)) :
    PS X (.Assign [.Name x p] e pos) (upS X.K X.mg W (fun D σ H => te σ H (fun x H1 => D.ex x σ H1) fun v H1 => D.nx (σ.set i (some v)) H1)) := by
  obtain ⟨h1, h2⟩ := loc_of ok hl
  exact ps_imp (ps_set (by rw [ok.n]; exact ok.nd) (by rw [ok.n]; exact idx_some hi) h1 he (noswap h) h2) fun D' σ' H' ⟨σ, H, D, rs, rh, q, kd⟩ =>
    ⟨σ, H, _, _, rs, rh, q, fun v T v' H1 hq rt rh1 k1 => kd.nx _ _ _ _ hq ((rs.keep k1.k).set i rt) rh1 k1, kd.x rs⟩
theorem s_asg {tg e : Expr} {te : TEx} {g : TGx} {pos : Pos} (he : PE X e (upE X.K X.mg W te)) (hg : PG X tg (upG X.K X.mg g)) (h : isComp e = false) (hw : swappedStores [tg] e X.env = pure none) (hs : isStar tg = false) :
    PS X (.Assign [tg] e pos) (upS X.K X.mg W (fun D σ H => te σ H (fun x H1 => D.ex x σ H1) fun v H1 => g v σ H1 (fun _ _ => False) D.nx)) :=
  ps_imp (ps_asg he hg (noswap h) hw (by rw [agOne hs]; rfl)) fun D' σ' H' ⟨σ, H, D, rs, rh, q, kd⟩ =>
    ⟨σ, H, _, _, rs, rh, q, fun v T v' H1 hq rt rh1 k1 => ⟨σ, T, D.nx, v, rs.keep k1.k, rh1, rt, hq, (kd.on k1).nx⟩, kd.x rs⟩
theorem fn_kind {env : Env} (h : env.scope.kind = .function) : env.blockKind = .function := by unfold Env.blockKind; rw [h]; rfl
/-- what swappedStores looks at, named -/
theorem swapped_eq {ts vs : List Expr} {k k2 : Nat} {p p2 : Pos} {env : Env} (hb : env.blockKind = .function) : swappedStores [.Tuple ts k p] (.Tuple vs k2 p2) env =
    (if (!(ts.length == 2 || ts.length == 3) || vs.length != ts.length) = true then pure none
    else if vs.any isStar = true then pure none
    else if ((locNames env.scope (headLine ts) ts).length != ts.length || (locNames env.scope (headLine ts) ts).eraseDups.length != (locNames env.scope (headLine ts) ts).length) = true then pure none
    else if vs.all (foldedForSure 8) = true then pure none
    else if vs.all (constantsAlone 8) = true then (do unsupported "assign.tuple-of-constant-expressions:order-of-the-stores"; pure (some (locNames env.scope (headLine ts) ts)))
    else pure (some (locNames env.scope (headLine ts) ts))) := by
  have hst : (vs.any fun | .Starred .. => true | _ => false) = vs.any isStar := by congr 1
  have hn : (ts.filterMap fun
      | .Name id pos => if env.kindOf id == some .local && pos.line == (ts.head?.map (·.pos.line)).getD 0 then some id else none
      | _ => none) = locNames env.scope (headLine ts) ts := rfl
  unfold swappedStores
  simp only [hb, bne_self_eq_false, Bool.or_false, pure_bind]
  rfl
theorem noPar_ok (ok : Ok X S G W) {ts : List Expr} {e : Expr} {k : Nat} {p : Pos} (h : noPar S ts e = true) : swappedStores [.Tuple ts k p] e X.env = pure none := by
  cases e <;> first
    | rfl
    | skip
  rename_i vs k2 p2
  rw [swapped_eq (fn_kind ok.kd), ok.sc]
  simp only [noPar, Bool.or_eq_true] at h
  split
  · rfl
  · rename_i c1
    split
    · rfl
    · rename_i c2
      rcases h with (h | h) | h
      · exact absurd (by simpa using h) c1
      · exact absurd h c2
      · rw [if_pos (by rw [h]; rfl)]
theorem parOf_some {ts : List Expr} {v : Expr} {i j : Nat} {vs : List Expr} (h : parOf S ts v = some (i, j, vs)) : ∃ x p y q a b k r, ts = [.Name x p, .Name y q] ∧ v = .Tuple [a, b] k r ∧ vs = [a, b] ∧ idx S.N x = some i ∧ idx S.N y = some j ∧
    S.sc.names.lookup x = some .local ∧ S.sc.names.lookup y = some .local ∧ (p.line == q.line) = true ∧ x ≠ y ∧ isStar a = false ∧ isStar b = false ∧ [a, b].all (foldedForSure 8) = false ∧ [a, b].all (constantsAlone 8) = false ∧ i ≠ j := by
  unfold parOf at h
  split at h
  · rename_i x p y q a b k r
    split at h
    · rename_i i' j' hi hj
      split at h
      · rename_i hc
        simp only [Option.some.injEq, Prod.mk.injEq] at h
        obtain ⟨rfl, rfl, rfl⟩ := h
        simp only [Bool.and_eq_true, bne_iff_ne, ne_eq, Bool.not_eq_true', beq_iff_eq] at hc
        obtain ⟨⟨⟨⟨⟨⟨⟨⟨c1, c2⟩, c3⟩, c4⟩, c5⟩, c6⟩, c7⟩, c8⟩, c9⟩ := hc
        exact ⟨x, p, y, q, a, b, k, r, rfl, rfl, rfl, hi, hj, c1, c2, by simp [c3], c4, c5, c6, c7, c8, c9⟩
      · cases h
    · cases h
  · cases h
theorem par_ok (ok : Ok X S G W) {x y : Str} {p q r t : Pos} {a b : Expr} {k1 k2 : Nat} (hx : S.sc.names.lookup x = some .local) (hy : S.sc.names.lookup y = some .local) (hl : (p.line == q.line) = true) (hne : x ≠ y) (ha : isStar a = false) (hb : isStar b = false)
    (h1 : [a, b].all (foldedForSure 8) = false) (h2 : [a, b].all (constantsAlone 8) = false) : swappedStores [.Tuple [.Name x p, .Name y q] k1 r] (.Tuple [a, b] k2 t) X.env = pure (some [x, y]) := by
  have hq : (q.line == p.line) = true := beq_iff_eq.mpr (beq_iff_eq.mp hl).symm
  have en : locNames S.sc (headLine [.Name x p, .Name y q]) [.Name x p, .Name y q] = [x, y] := by
    simp [locNames, headLine, Expr.pos, hx, hy, beq_iff_eq.mp hq]
  have hyx : (y == x) = false := beq_eq_false_iff_ne.mpr hne.symm
  have e2 : ([x, y] : List Str).eraseDups = [x, y] := by
    rw [List.eraseDups_cons]
    have f1 : [y].filter (fun b => !b == x) = [y] := by simp only [List.filter, hyx, Bool.not_false]
    rw [f1, List.eraseDups_cons]
    rfl
  have hs : [a, b].any isStar = false := by simp [ha, hb]
  rw [swapped_eq (fn_kind ok.kd), ok.sc, en, e2, h1, h2, hs]
  simp
end
end TL


set_option Elab.async false
set_option linter.all false
set_option maxRecDepth 100000
/-! TL6i: exceptions: raise, try, a field, isinstance by own classes. -/
namespace TL
open PySem PySem.Spec PyProof.Rows L2
section
variable {X : Cx} {W : WX} {S : SC} {G : GE}
/-! ### isinstance -/
theorem cls_nm (ok : Ok X S G W) {c : Str} (h : clsOk S G c = true) (pos : Pos) : ∃ (v : V) (u : Value), ClsV v u ∧ ClsNm X.mg c u ∧ ((∃ ci, G.cls c = some ci) ∨ c = "ValueError") ∧ PE X (.Name c pos) (tC v) := by
  simp only [clsOk, Bool.and_eq_true, Bool.or_eq_true, beq_iff_eq] at h
  obtain ⟨⟨⟨h1, h2⟩, _⟩, h4⟩ := h
  obtain ⟨hd, _, hn⟩ := ok_name h1
  have hv : X.mg "ValueError" = none := ok.blt _ (by decide +kernel)
  by_cases e : c = "ValueError"
  · subst e
    exact ⟨.ty "ValueError", .type "ValueError", .ty _, .inr ⟨hv, rfl, rfl⟩, .inr rfl, pe_bltn (ok.gl h2) hv PyProof.Rows.Boot.«ValueError» rfl hn hd⟩
  · obtain ⟨ci, hci⟩ := Option.isSome_iff_exists.mp (h4.resolve_right e)
    obtain ⟨C, m, _⟩ := ok.cls c ci hci
    exact ⟨.ref C, .ref C, .own C, .inl ⟨m, C, rfl⟩, .inl ⟨ci, hci⟩, pe_glob (ok.gl h2) m rfl hd⟩
/-- what isinstance tells of a thing, told one class -/
theorem iso_one (ok : Ok X S G W) {c : Str} {v2 : V} {w : Value} (kv : ClsV v2 w) (hw : ClsNm X.mg c w) (hc : (∃ ci, G.cls c = some ci) ∨ c = "ValueError") :
    CallR X (.builtin "isinstance") (fun xs H' Q' => ∃ x T v Q b, xs = [v, v2] ∧ RT X.K H' x v ∧ RH X.K X.mg T H' ∧ isoOf G T x c = some b ∧ Q (.bl b) T ∧ KQ X.K X.mg T H' Q Q') := by
  intro pins s σ H xs us Q' I r h
  obtain ⟨x, T, v, Q, b, rfl, rt, rh, hb, q, kq⟩ := h
  obtain ⟨u1, u2, rfl, r1, r2⟩ := vals2 r
  have e2 := kv.eq r2
  subst e2
  obtain ⟨t, P, Z, p, hx, all⟩ := kit_thing ok.cls (ok.blt _ (by decide +kernel)) I r1 rt rh hb
  exact PySem.W.kia_one Z I.kIn p (all c b _ hb hc hw) hx fun tk => ⟨.bl b, H, I.tok tk, rfl, kq _ _ _ _ q (.bl _) rh (.refl _)⟩
theorem isoAny_cons {H : TH} {x : TV} {c : Str} {r : List Str} {b : Bool} (h : isoAny G H x (c :: r) = some b) : ∃ b1 b2, isoOf G H x c = some b1 ∧ isoAny G H x r = some b2 ∧ b = (b1 || b2) := by
  unfold isoAny at h
  split at h
  · rename_i b1 d1 h1 h2
    exact ⟨b1, d1, h1, h2, (Option.some.inj h).symm⟩
  · cases h
theorem kit_any {K : PySem.W.Frag} {t : Value} {H : TH} {x : TV} : ∀ {cs : List Str} {us : List Value} {b : Bool}, isoAny G H x cs = some b → Paired (fun c w => ∀ b, isoOf G H x c = some b → PySem.W.kitOne K t w = some b) cs us → PySem.W.kitAny K t us = some b
  | [], _, b, h, .nil => by
    cases h
    exact kitAny_nil
  | c :: r, _, b, h, .cons a p => by
    obtain ⟨b1, b2, h1, h2, rfl⟩ := isoAny_cons h
    have z := kit_any h2 p
    cases b1 with
    | true => exact kitAny_cons (a _ h1) (fun e => by cases e) fun _ => by simp
    | false => exact kitAny_cons (a _ h1) (fun _ => by simpa using z) fun e => by cases e
theorem cls_nms (ok : Ok X S G W) : ∀ {es : List Expr} {cs : List Str}, clsNames es = some cs → cs.all (clsOk S G) = true → ∃ (vs : List V) (us : List Value), Paired ClsV vs us ∧ Paired (fun c w => ClsNm X.mg c w ∧ ((∃ ci, G.cls c = some ci) ∨ c = "ValueError")) cs us ∧ vs.length = cs.length ∧ PA X es (fun _ H Q => Q vs H)
  | [], cs, h, _ => by
    cases h
    exact ⟨[], [], .nil, .nil, rfl, pa_nil⟩
  | .Name c p :: r, cs, h, ha => by
    simp only [clsNames] at h
    cases q : clsNames r with
    | none => rw [q] at h; cases h
    | some l =>
      rw [q] at h
      cases h
      simp only [List.all_cons, Bool.and_eq_true] at ha
      obtain ⟨v, u, k, n, hc, pe⟩ := cls_nm ok ha.1 p
      obtain ⟨vs, us, ks, ns, hl, pa⟩ := cls_nms ok q ha.2
      exact ⟨v :: vs, u :: us, .cons k ks, .cons ⟨n, hc⟩ ns, by simp [hl], pa_cons pe pa (starOne rfl)⟩
theorem p_iso1 (ok : Ok X S G W) {a : Expr} {te : TEx} (c : Str) {p p2 pos : Pos} (hs : isStar a = false) (hi : (okName ("isinstance" : Str) && glB S.sc "isinstance" && (idx S.N "isinstance").isNone) = true) (ha : PE X a (upE X.K X.mg W te)) :
    PE X (.Call (.Name "isinstance" p) [a, .Name c p2] [] pos) (upE X.K X.mg W (isoW S G te [c])) := by
  unfold isoW
  refine up_guard fun h => ?_
  simp only [Bool.and_eq_true] at hi
  simp only [List.all_cons, List.all_nil, Bool.and_true] at h
  obtain ⟨v, u, k, n, hc, pe⟩ := cls_nm ok h p2
  refine pe_imp (pe_callB (iso_one ok k n hc) (ok.gl hi.1.2) (ok.blt _ (by decide +kernel)) PyProof.Rows.boot_isinstance (pa_cons ha (pa_cons pe pa_nil (by rfl)) (starOne hs)) (by decide) (by decide) (starOne hs) (by rfl))
    fun σ' H' Q' ⟨σ, H, E, Q, rs, rh, q, kq, kx⟩ => ?_
  refine ⟨σ, H, E, _, rs, rh, q, fun x T v1 H1 hq rt rh1 k1 => ?_, kx⟩
  obtain ⟨b, eb, q2⟩ := hq
  obtain ⟨b1, b2, h1, h2, rfl⟩ := isoAny_cons eb
  cases h2
  exact ⟨x, T, v1, Q, b1, rfl, rt, rh1, h1, by simpa using q2, kq.on k1⟩
theorem p_isoT (ok : Ok X S G W) {a : Expr} {te : TEx} {es : List Expr} {cs : List Str} (hcs : clsNames es = some cs) {kk : Nat} {p p2 pos : Pos} (hs : isStar a = false) (hne : cs ≠ []) (hl : cs.length ≤ 100) (hi : (okName ("isinstance" : Str) && glB S.sc "isinstance" && (idx S.N "isinstance").isNone) = true) (ha : PE X a (upE X.K X.mg W te)) :
    PE X (.Call (.Name "isinstance" p) [a, .Tuple es kk p2] [] pos) (upE X.K X.mg W (isoW S G te cs)) := by
  unfold isoW
  refine up_guard fun h => ?_
  simp only [Bool.and_eq_true] at hi
  obtain ⟨vs, us, ks, ns, hlen, pa⟩ := cls_nms ok hcs h
  have cr : CallR X (.builtin "isinstance") (fun xs H' Q' => ∃ tp H0 v x T Q b, xs = [v, .ref tp] ∧ H' tp = some (.tup vs) ∧ RT X.K H' x v ∧ RH X.K X.mg T H' ∧ isoAny G T x cs = some b ∧ cs ≠ [] ∧ Q (.bl b) T ∧ KQ X.K X.mg T H0 Q Q' ∧ Stp T H0 T H') := by
    intro pins s σ H xs us' Q' I r h
    obtain ⟨tp, H0, v, x, T, Q, b, rfl, et, rt, rh, hb, hne, q, kq, st⟩ := h
    obtain ⟨u1, u2, rfl, r1, r2⟩ := vals2 r
    cases (show u2 = Value.ref tp from r2)
    obtain ⟨_, its, rv, o, h1, h2, n, h3⟩ := (show ObjOk X.prog X.w H s.heap tp (.tup vs) from I.hok tp _ et)
    have e3 := ClsV.all ks rv
    subst e3
    obtain ⟨oc, od, dt, sl⟩ := o
    simp only at h2 h3
    subst h2 h3
    cases cs with
    | nil => exact absurd rfl hne
    | cons c0 cr =>
      obtain ⟨b1, b2, g1, g2, _⟩ := isoAny_cons hb
      obtain ⟨t, P, Z, p, hx, all⟩ := kit_thing ok.cls (ok.blt _ (by decide +kernel)) I r1 rt rh g1
      have pr : ∀ {cs : List Str} {us : List Value}, Paired (fun c w => ClsNm X.mg c w ∧ ((∃ ci, G.cls c = some ci) ∨ c = "ValueError")) cs us → Paired (fun c w => ∀ b, isoOf G T x c = some b → PySem.W.kitOne X.K t w = some b) cs us := by
        intro cs us q
        induction q with
        | nil => exact .nil
        | cons a _ ih => exact .cons (fun b hb => all _ b _ hb a.2 a.1) ih
      exact PySem.W.kia_tup Z I.kIn p h1 (kit_any hb (pr ns)) hx fun tk => ⟨.bl b, H, I.tok tk, rfl, kq _ _ _ _ q (.bl _) rh st⟩
  refine pe_imp (pe_callB cr (ok.gl hi.1.2) (ok.blt _ (by decide +kernel)) PyProof.Rows.boot_isinstance (pa_cons ha (pa_cons (pe_tup pa) pa_nil (by rfl)) (starOne hs)) (by decide) (by decide) (starOne hs) (by rfl))
    fun σ' H' Q' ⟨σ, H, E, Q, rs, rh, q, kq, kx⟩ => ?_
  refine ⟨σ, H, E, _, rs, rh, q, fun x T v1 H1 hq rt rh1 k1 => ?_, kx⟩
  obtain ⟨b, eb, q2⟩ := hq
  refine ⟨by rw [hlen]; exact Nat.le_trans hl (by decide +kernel), fun tp htp => ?_⟩
  exact ⟨tp, H1, v1, x, T, Q, b, rfl, upd_same, rt.keep (.new htp), rh1.new htp, eb, hne, q2, kq.on k1, .new htp⟩
/-! ### an exception's field -/
theorem p_attr (ok : Ok X S G W) {o : Expr} {n : Str} {to : TEx} {pos : Pos} (ho : PE X o (upE X.K X.mg W to)) (h0 : notCall0 o = true) :
    PE X (.Attribute o n pos) (upE X.K X.mg W (fun σ H E Q => to σ H E fun x H1 => attrOp G n x H1 Q)) := by
  refine ⟨fun pins s σ' H' Q' I h => ?_⟩
  obtain ⟨σ, H, E, Q, rs, rh, q, kq, kx⟩ := h
  refine attr_of (base_of h0) (thn (ho.run pins s σ' H' (fun v H1 => ∃ x T, RT X.K H1 x v ∧ RH X.K X.mg T H1 ∧ Stp H H' T H1 ∧ attrOp G n x T Q) I ⟨σ, H, E, _, rs, rh, q, fun x T v H1 hq rt rh1 k1 => ⟨x, T, rt, rh1, k1, hq⟩, kx⟩) fun u s1 hh => ?_)
  obtain ⟨v, H1, I1, rv, x, T, rt, rh1, k1, hq⟩ := hh
  unfold attrOp at hq
  split at hq
  · rename_i a
    split at hq
    · rename_i c fs ea
      obtain ⟨ci, hci, hf, w, hw, q2⟩ := hq
      cases rt
      cases (show u = Value.ref a from rv)
      obtain ⟨C, d, m, eh, xf⟩ := rh1 a _ ea
      obtain ⟨C', m', F⟩ := ok.cls c ci hci
      rw [m] at m'
      cases m'
      obtain ⟨ox, od, J, all⟩ := exc_inst I1 eh xf
      obtain ⟨o', v', u', rfl, hl, ru, rt'⟩ := all n w hw
      have hno := F.fld n (by simpa using hf)
      have U := F.full (.inr fun z => by rw [z] at hf; cases hf)
      exact PySem.HandSPX.exc_get I1.kIn J U.hga U.hgt U.hsub (PySem.W.findObj_own U.hd hno rfl hl) (handed_of ru) ⟨v', H1, I1.tok _, ru, kq _ _ _ _ q2 rt' rh1 k1⟩
    · exact hq.elim
  · exact hq.elim
/-! ### raise -/
theorem s_raise (ok : Ok X S G W) (hc : S.calm = true) (ht : S.top = true) {c : Str} {ci : CI} (hci : G.cls c = some ci) (hg : Gl X c) (hdb : (c == ("__debug__" : Str)) = false) {fe : Expr → TEx} (hf : ∀ e, PE X e (upE X.K X.mg W (fe e))) {e : Expr} {r : List Expr} {p pos pos' : Pos} (hs : noStars (e :: r) = true) :
    PS X (.Raise (some (.Call (.Name c p) (e :: r) [] pos)) none pos') (upS X.K X.mg W (fun D σ H => argsW fe (e :: r) σ H (fun x H1 => D.ex x σ H1) fun xs H1 => xs ≠ [] ∧ ci.xk xs H1 fun fs => D.ex ⟨c, fs⟩ σ H1)) :=
  ps_imp (ps_raise (ok.calm hc) ok.tk (mk_run ok hc ht hci hg hdb hf hs)) fun D' σ' H' ⟨σ, H, D, rs, rh, q, kd⟩ =>
    ⟨σ, H, _, _, rs, rh, q, fun fs T C d H1 hr hm xf rh1 st => kd.ex _ _ _ _ _ _ _ hr (rs.keep st.k) ⟨C, hm, rfl, xf⟩ rh1 st, kd.x rs⟩
end
/-! ### try: the exception caught is tracked from then on -/
section
variable {X : Cx} {pins : List (Addr × Obj)} {σ : L2.St} {H : Hp} {s sI s' : Shared} {B : Heap}
theorem inv_suiteT (I : Inv X pins σ H s) (a : Addr) : Inv (X.suite a (X.pn ++ pins)) [] σ H s :=
  ⟨I.ok.suite _ _, I.os, I.bare, I.base, I.loc, I.cell, I.free, I.freeC, fun p hp => I.pin p (by rw [List.append_nil] at hp; exact hp), I.hok, I.len⟩
theorem inv_unsuiteT {a : Addr} {pn' : List (Addr × Obj)} (I : Inv (X.suite a (X.pn ++ pins)) pn' σ H s) (ok : X.Ok) : Inv X pins σ H s :=
  ⟨ok, I.os, I.bare, I.base, I.loc, I.cell, I.free, I.freeC, fun p hp => I.pin p (List.mem_append_left _ hp), I.hok, I.len⟩
theorem inv_landedT (I : Inv X pins σ H sI) (nb : ∀ b o, sI.heap.get? b = some o → b ∉ frs X.stack → B.get? b = some o) (st : B.StaysIn s'.heap) (up : sI.heap.UpToSlots s'.heap) (os : s'.os = sI.os) (ag : AllBare s'.gens) {a : Addr} {o : HO} (na : H a = none) (hne : sI.heap.get? a = none) (new : ObjOk X.prog X.w (upd H a o) s'.heap a o) :
    Inv X pins σ (upd H a o) s' := by
  have nf : ∀ b ∈ frs X.stack, ∀ o, sI.heap.get? b = some o → ∃ sl, s'.heap.get? b = some { o with slots := sl } := fun b hb o e => by
    obtain ⟨_, o', e', hd⟩ := I.stack.mem hb
    rw [e] at e'; cases e'
    exact up b o e hd
  have ne : ∀ {b o}, sI.heap.get? b = some o → b ≠ a := fun {b o} e z => by rw [z, hne] at e; cases e
  have nn : ∀ {b u}, H b = some u → b ≠ a := fun {b u} e z => by rw [z, na] at e; cases e
  refine I.call' (ch := []) os ⟨fun b o e _ hb _ => st b o (nb b o e hb), fun b o e _ hb _ => nf b hb o e, fun b o e n _ => by rw [upd_ne (ne e)]; exact n, fun b o e _ => ?_, fun b xs e => by rw [upd_ne (nn e)]; exact e, fun b o u e => by rw [upd_ne (nn e)]; exact e, fun b ps e => ⟨#[], by rw [upd_ne (nn e), e]; simp⟩⟩
    (((I.inGround nb).kept st).laidN (fun _ _ e => e) na new) ag (fun _ z => nomatch z)
  by_cases hb : b ∈ frs X.stack
  · obtain ⟨sl, q⟩ := nf b hb o e
    exact ⟨_, q⟩
  · exact ⟨o, st b o (nb b o e hb)⟩
/-- what is wanted behind a suite, lowered -/
def backD (oi : Option Nat) (D : Ends) : Ends := match oi with
  | none => D
  | some i => { nx := fun σ H => D.nx (σ.set i none) H, rt := D.rt, bk := fun σ H => D.bk (σ.set i none) H, ct := fun σ H => D.ct (σ.set i none) H }
def putO (oi : Option Nat) (σ : L2.St) (a : Addr) : L2.St := match oi with
  | none => σ
  | some i => σ.set i (some (.ref a))
def wTry (K : PySem.W.Frag) (Wout : WX) (D : Ends) : List (Value × Option Nat × TS) → WX
  | [] => Wout
  | (c, oi, ts) :: r => fun cls d σ H => ∃ b, PySem.W.exmOne K cls c = some b ∧ (b = true → ∀ a, H a = none → ts (backD oi D) (putO oi σ a) (upd H a (ExR cls d a))) ∧ (b = false → wTry K Wout D r cls d σ H)
inductive HdT (X : Cx) : List ExceptHandler → List (Value × Option Nat × TS) → Prop
  | nil : HdT X [] []
  | cons {x : Str} {c : Value} {n : Option Str} {oi : Option Nat} {ts : TS} {b₀ : Stmt} {suite : List Stmt} {np pos' : Pos} {hds : List ExceptHandler} {l : List (Value × Option Nat × TS)} (hc : Names X x c)
      (hn : (n = none ∧ oi = none) ∨ ∃ m i, n = some m ∧ oi = some i ∧ X.N[i]? = some m ∧ X.env.kindOf m = some .local)
      (hsu : ∀ (a : Addr) (pn : List (Addr × Obj)), PSs (X.suite a pn) (b₀ :: suite) ts) (r : HdT X hds l) :
      HdT X (.ExceptHandler (some (.Name x np)) n (b₀ :: suite) pos' :: hds) ((c, oi, ts) :: l)
end
section
variable {X : Cx} {body : List Stmt} {h₀ : ExceptHandler} {hds : List ExceptHandler} {l : List (Value × Option Nat × TS)} {pos : Pos} {tb : WX → TS} {Wout : WX}
theorem ps_tryT (hs : X.stack = X.env :: X.outer) (hf : X.env.frame = some X.env.locals) (hN : X.N.Nodup) (tk : Takes X Wout)
    (hb : ∀ (W : WX) (pn : List (Addr × Obj)) (xe : Value → Shared → Prop), Takes (X.tr pn xe) W → PassesOwn (model X.prog X.w) X.A X.env xe → PSs (X.tr pn xe) body (tb W))
    (hh : HdT X (h₀ :: hds) l) : PS X (.Try body (h₀ :: hds) [] [] pos) (fun D σ H => tb (wTry X.K Wout D l) D σ H) := by
  refine ⟨fun pins s σ H D I h => ?_⟩
  have ok := I.ok
  have hfr : X.A.frames = some (X.env :: X.outer) := by rw [ok.frames, hs]
  refine wpAny_Try_except ?_
  refine wpAny_mono ((hb (wTry X.K Wout D l) (X.pn ++ pins) (fun e s₁ => wpAny (model X.prog X.w) X.A (noteFrame e X.env) (fun _ s₂ => wpAny (model X.prog X.w) X.A (setFlight e none) (fun _ s₃ =>
    wpAny (model X.prog X.w) X.A (handleBy e X.env (h₀ :: hds)) (SP X pins D) X.xe s₃) X.xe s₂) X.xe s₁) (fun u s' xx => ?_) PassesOwn.looking).run [] s σ H D (I.toTry _) h) (fun f s1 hsp => ?_) (fun e s1 he => he)
  · -- the catch
    obtain ⟨a, B, sI, pins', σ', H', cls, d, rfl, J', nb, up, sky, na, os, ag, w⟩ := xx
    have J : Inv X pins σ' H' sI := J'.ofTry ok
    have sky' : Sky B (X.env :: X.outer) a (Zc cls d) X.env.locals s'.heap := by rw [← hs]; exact sky
    show wpAny (model X.prog X.w) X.A (noteFrame (.ref a) X.env) _ _ _
    refine Sky.land Zc.steady hfr hf sky' fun h3 fl3 up3 => ?_
    have J3 : Inv X pins σ' H' { s' with heap := h3 } := J.landed nb fl3.1 (up.trans up3) os ag
    obtain ⟨oe3, vs3, he3, hz3, hd3⟩ := fl3.there
    have notFr : ∀ {h : Heap} {o : Obj} {vs : Array Value}, h.FunFrames B (X.env :: X.outer) → h.get? a = some o → o.data = .fields vs → a ∉ frs (X.env :: X.outer) := fun {h o vs} ff e dd hm => by
      obtain ⟨_, o', e', hnf⟩ := ff.mem hm
      rw [e] at e'; cases e'
      exact hnf _ dd
    have nfr := notFr fl3.2.2.1 he3 hd3
    have nfr' : a ∉ frs X.stack := by rw [hs]; exact nfr
    have nsI : sI.heap.get? a = none := by
      cases q : sI.heap.get? a with
      | none => rfl
      | some o =>
        have z := nb a o q nfr'
        rw [fl3.2.1] at z
        cases z
    have nL : a ≠ X.env.locals := fun z => nfr (List.mem_filterMap.mpr ⟨X.env, List.mem_cons_self, by rw [hf, z]⟩)
    have nF : a ∉ X.fs := fun hm => by
      obtain ⟨e, he, q⟩ := List.mem_filterMap.mp hm
      exact nfr (List.mem_filterMap.mpr ⟨e, List.mem_cons_of_mem _ he, q⟩)
    have S3 := J3.suite he3 hd3 na nL nF
    have go : ∀ {hds' : List ExceptHandler} {l' : List (Value × Option Nat × TS)}, HdT X hds' l' → wTry X.K Wout D l' cls d σ' H' →
        wpAny (model X.prog X.w) X.A (handleBy (.ref a) X.env hds') (SP X pins D) X.xe { s' with heap := h3 } := by
      intro hds' l' hk
      induction hk with
      | nil =>
        intro w
        refine wpAny_handleBy_nil ?_
        obtain ⟨k1, k2, k3, oe, vs, T, oT, ts', he, hz, hd, h1, hr⟩ := id fl3
        unfold PySem.passOn
        refine wpAny_bind (wpAny_field he hd h1 ?_)
        rw [if_neg (show ¬ ((Value.ref T == Value.none) = true) from by simp)]
        have fin : wpAny (model X.prog X.w) X.A (setFlight (.ref a) X.env.frame) (fun _ s4 => wpAny (model X.prog X.w) X.A (throw (.ref a) : Sem Flow) (SP X pins D) X.xe s4) X.xe { s' with heap := h3 } := by
          rw [hf]
          refine HandSPX.setFlight_upZ fl3 fun h4 hh4 up4 => wpAny_throw (tk _ _ ?_)
          exact ⟨a, B, sI, pins, σ', H', cls, d, rfl, J, nb, (up.trans up3).trans up4, .inr (.inr (by rw [hs]; exact hh4)), na, os, ag, w⟩
        first
          | exact wpAny_bind (wpAny_pure (wpAny_bind fin))
          | exact wpAny_bind fin
      | @cons x c n oi ts b₀ suite np pos' hds2 l2 hc hn hsu r ih =>
        intro w
        obtain ⟨b, hb1, hyes, hno⟩ := w
        refine wpAny_handleBy_cons (codeAny_handlers_test ?_) (by intro q; cases q)
        have LT : PySem.W.Looks (model X.prog X.w) h3 (typeOf (.ref a)) cls := fun A Q E s k q => wpAny_typeOf_ref (k _ _ he3) (by rw [hz3.1]; exact q)
        have LM := PySem.W.exm_one (M := model X.prog X.w) (J3.kIn) LT hb1
        have test : ∀ {Q : Value → Shared → Prop} {E : Value → Shared → Prop}, Q c { s' with heap := h3 } → wpAny (model X.prog X.w) (X.A.mark (some (.ref a))) (eval (.Name x np) X.env) Q E { s' with heap := h3 } := fun {Q E} q => by
          obtain ⟨hg, hdbg, hm | ⟨hm, hv, hnn⟩⟩ := hc
          · exact ld_glob (X := X.suite a ((a, oe3) :: (X.pn ++ pins))) S3 hg hm q hdbg
          · exact ld_blt (X := X.suite a ((a, oe3) :: (X.pn ++ pins))) S3 hg hm hv q hnn hdbg
        refine test (LM.here ?_)
        cases b with
        | true =>
          have core : ∀ h4, HandSPX.FlyingZ B (X.env :: X.outer) a (Zc cls d) h4 → h3.UpToSlots h4 → Inv (X.suite a (X.pn ++ pins)) [] σ' (upd H' a (ExR cls d a)) { s' with heap := h4 } := fun h4 fl4 up4 => by
            obtain ⟨oe4, vs4, he4, hz4, hd4⟩ := fl4.there
            exact inv_suiteT (inv_landedT J (s' := { s' with heap := h4 }) nb fl4.1 ((up.trans up3).trans up4) os ag na nsI (exR_ok he4 hz4 hd4)) a
          rcases hn with ⟨rfl, rfl⟩ | ⟨m, i, rfl, rfl, hi, hln⟩
          · refine codeAny_handlers_suite ?_
            refine HandSPX.lands_againZ fl3 fun h4 fl4 up4 => ?_
            refine wpAny_mono ((hsu a (X.pn ++ pins)).run [] _ _ _ _ (core h4 fl4 up4) (hyes rfl a na)) (fun f s6 hsp => ?_) (fun _ _ z => False.elim z)
            cases f with
            | next =>
              obtain ⟨σ6, H6, S6, q6⟩ := hsp
              exact ⟨_, _, inv_unsuiteT S6 ok, q6⟩
            | brk =>
              obtain ⟨σ6, H6, S6, q6⟩ := hsp
              exact ⟨_, _, inv_unsuiteT S6 ok, q6⟩
            | cont =>
              obtain ⟨σ6, H6, S6, q6⟩ := hsp
              exact ⟨_, _, inv_unsuiteT S6 ok, q6⟩
            | ret u =>
              obtain ⟨v6, σ6, H6, S6, r6, q6⟩ := hsp
              exact ⟨_, _, _, inv_unsuiteT S6 ok, r6, q6⟩
          · refine codeAny_handlers_suite_as ?_
            refine HandSPX.lands_againZ fl3 fun h4 fl4 up4 => ?_
            refine store_ok (X := X.suite a (X.pn ++ pins)) (v := .ref a) (core h4 fl4 up4) hN hi (.inl hln) rfl (fun s5 S5 => ?_) (.inr hln)
            refine wpAny_mono ((hsu a (X.pn ++ pins)).run [] s5 _ _ _ S5 (hyes rfl a na)) (fun f s6 hsp => ?_) (fun _ _ z => False.elim z)
            have end_ : ∀ {σ6 : L2.St} {H6 : Hp} {Q : Shared → Prop}, Inv (X.suite a (X.pn ++ pins)) [] σ6 H6 s6 → (∀ s7, Inv X pins (σ6.set i none) H6 s7 → Q s7) →
                wpAny (model X.prog X.w) X.A (do bindName X.env m .none; unbindBehindTheSuite X.env m pos') (fun _ s7 => Q s7) X.xe s6 := fun {σ6 H6 Q} S6 hq => gone_ok (inv_unsuiteT S6 ok) hN hi hln hq
            cases f with
            | next =>
              obtain ⟨σ6, H6, S6, q6⟩ := hsp
              exact end_ S6 fun s7 J7 => ⟨_, _, J7, q6⟩
            | brk =>
              obtain ⟨σ6, H6, S6, q6⟩ := hsp
              exact end_ S6 fun s7 J7 => ⟨_, _, J7, q6⟩
            | cont =>
              obtain ⟨σ6, H6, S6, q6⟩ := hsp
              exact end_ S6 fun s7 J7 => ⟨_, _, J7, q6⟩
            | ret u =>
              obtain ⟨v6, σ6, H6, S6, r6, q6⟩ := hsp
              exact end_ S6 fun s7 J7 => ⟨_, _, _, J7, r6, q6⟩
        | false =>
          show wpAny _ X.A (handleBy (.ref a) X.env hds2) _ _ _
          exact ih (hno rfl)
    exact go hh w
  · cases f with
    | next =>
      obtain ⟨σ', H', J', q⟩ := hsp
      exact wpAny_execs_nil ⟨σ', H', J'.ofTry ok, q⟩
    | brk =>
      obtain ⟨σ', H', J', q⟩ := hsp
      exact ⟨σ', H', J'.ofTry ok, q⟩
    | cont =>
      obtain ⟨σ', H', J', q⟩ := hsp
      exact ⟨σ', H', J'.ofTry ok, q⟩
    | ret u =>
      obtain ⟨v, σ', H', J', r, q⟩ := hsp
      exact ⟨v, σ', H', J'.ofTry ok, r, q⟩
end
end TL


set_option Elab.async false
set_option linter.all false
set_option maxRecDepth 100000
/-! TL6h: the whole: what is reckoned over trees is what the machine does. -/
namespace TL
open PySem PySem.Spec L2
section
variable {X : Cx} {W : WX} {S : SC} {G : GE}
theorem s_par (ok : Ok X S G W) (hc : X.calm = true) {f : Expr → TEx} (hf : ∀ e, PE X e (upE X.K X.mg W (f e))) {x y : Str} {i j : Nat} {p q r t pos : Pos} {a b : Expr} {k1 k2 : Nat} (hi : idx S.N x = some i) (hj : idx S.N y = some j) (hij : i ≠ j) (hx : S.sc.names.lookup x = some .local) (hy : S.sc.names.lookup y = some .local)
    (hl : (p.line == q.line) = true) (hne : x ≠ y) (ha : isStar a = false) (hb : isStar b = false) (h1 : [a, b].all (foldedForSure 8) = false) (h2 : [a, b].all (constantsAlone 8) = false) :
    PS X (.Assign [.Tuple [.Name x p, .Name y q] k1 r] (.Tuple [a, b] k2 t) pos) (upS X.K X.mg W (fun D σ H => argsW f [a, b] σ H (fun x H1 => D.ex x σ H1) fun l H1 => ∃ a b, l = [a, b] ∧ D.nx ((σ.set i (some a)).set j (some b)) H1)) := by
  have hs : noStars [a, b] = true := by simp [noStars, ha, hb]
  refine ps_imp (ps_par hc (by rw [ok.n]; exact ok.nd) (by rw [ok.n]; exact idx_some hi) (by rw [ok.n]; exact idx_some hj) hij (by rw [ok.sc]; exact hx) (by rw [ok.sc]; exact hy) (p_args hf hs) (par_ok ok hx hy hl hne ha hb h1 h2) (by rfl))
    fun D' σ' H' ⟨σ, H, D, rs, rh, q, kd⟩ => ?_
  refine ⟨σ, H, _, _, rs, rh, q, fun l T vs H1 ⟨u, v, e, hq⟩ rt rh1 k1 => ?_, kd.x rs⟩
  subst e
  obtain ⟨u', v', rfl, r1, r2⟩ := rts2 rt
  exact ⟨u', v', rfl, kd.nx _ _ _ _ hq (((rs.keep k1.k).set i r1).set j r2) rh1 k1⟩
def LIp (K : PySem.W.Frag) (mg : Str → Option Value) (op : Operator) : TIp := fun x' y' H' Q' => ∃ T x y Q, RT K H' x x' ∧ RT K H' y y' ∧ RH K mg T H' ∧ stepS.augOp op x y T Q ∧ KQ K mg T H' Q Q'
theorem ip_aug {op : Operator} (h : stepS.augOk op = true) : PIp X op (LIp X.K X.mg op) := by
  intro pins s σ H x' y' v u Q' I rx ry h0
  obtain ⟨T, x, y, Q, tx, ty, rh, h1, kq⟩ := h0
  cases op <;> first | (cases h; done) | skip
  · cases x <;> cases y <;> first | exact h1.elim | skip
    cases tx; cases ty
    exact ip_add pins s σ H _ _ v u Q' I rx ry ⟨_, _, rfl, rfl, kq _ _ _ _ h1 (.int _) rh (.refl _)⟩
  · cases x <;> cases y <;> first | exact h1.elim | skip
    cases tx; cases ty
    exact ip_sub pins s σ H _ _ v u Q' I rx ry ⟨_, _, rfl, rfl, kq _ _ _ _ h1 (.int _) rh (.refl _)⟩
theorem s_aug (ok : Ok X S G W) {x : Str} {i : Nat} {e : Expr} {te : TEx} {op : Operator} {p pos : Pos} (hi : idx S.N x = some i) (hl : locB S x = true) (ho : stepS.augOk op = true) (he : PE X e (upE X.K X.mg W te)) :
    PS X (.AugAssign (.Name x p) op e pos) (upS X.K X.mg W (fun D σ H => ∃ v, σ[i]? = some (some v) ∧ te σ H (fun x H1 => D.ex x σ H1) fun y H1 => stepS.augOp op v y H1 fun z H2 => D.nx (σ.set i (some z)) H2)) := by
  obtain ⟨h1, h2⟩ := loc_of ok hl
  refine ps_imp (ps_aug (by rw [ok.n]; exact ok.nd) (by rw [ok.n]; exact idx_some hi) h1 he (ip_aug ho) h2) fun D' σ' H' ⟨σ, H, D, rs, rh, ⟨v, ev, q⟩, kd⟩ => ?_
  obtain ⟨v', ev', rv⟩ := rs.2 i v ev
  refine ⟨v', ev', σ, H, _, _, rs, rh, q, fun y T y' H1 hq rt rh1 k1 => ?_, kd.x rs⟩
  exact ⟨T, v, y, _, rv.keep k1.k, rt, rh1, hq, fun z T2 z' H2 hq2 rt2 rh2 k2 => kd.nx _ _ _ _ hq2 ((rs.keep (k1.trans k2).k).set i rt2) rh2 (k1.trans k2)⟩
theorem blk_kind {N : List Str} {sc scope : Scope} {own : List (Str × Nat)} (h : blkC N sc scope own = true) : scope.kind = .function := (blkOk_by h).kind
theorem Ok.blk (ok : Ok X S G W) {scope : Scope} (hb : blkC S.N S.sc scope (ownOf S.N scope) = true) (s : Shared) (H : Hp) (C : Addr) (cl : List (Str × Addr)) (fp : List Addr) :
    Ok (X.blk s H scope (compEnvC scope cl C X.env) fp) (S.blk scope) G (fun _ _ _ _ => False) where
  n := ok.n
  nd := ok.nd
  sc := by
    show relabel scope X.env = relS scope S.sc
    rw [← ok.sc]
    rfl
  kd := by
    show scope.kind = _
    exact blk_kind hb
  fn := rfl
  calm := ok.calm
  grd := ok.grd
  tk := takes0
  po := .never
  blt := ok.blt
  fns := ok.fns
  con := ok.con
  un := ok.un
  cls := ok.cls
  xk := ok.xk
  own := fun h => by cases h
theorem Ok.tr (ok : Ok X S G W) {pn : List (Addr × Obj)} {xe : Value → Shared → Prop} {W' : WX} (tk : Takes (X.tr pn xe) W') (po : PassesOwn (model X.prog X.w) X.A X.env xe) : Ok (X.tr pn xe) S G W' where
  n := ok.n
  nd := ok.nd
  sc := ok.sc
  kd := ok.kd
  fn := ok.fn
  calm := ok.calm
  grd := ok.grd
  tk := tk
  po := po
  blt := ok.blt
  fns := ok.fns
  con := ok.con
  un := ok.un
  cls := ok.cls
  xk := ok.xk
  own := ok.own
theorem Ok.suite (ok : Ok X S G W) (a : Addr) (pn : List (Addr × Obj)) : Ok (X.suite a pn) S.hot G (fun _ _ _ _ => False) where
  n := ok.n
  nd := ok.nd
  sc := ok.sc
  kd := ok.kd
  fn := ok.fn
  calm := fun h => by cases h
  grd := fun h => by cases h
  tk := takes_none5
  po := .never
  blt := ok.blt
  fns := fun h => by cases h
  con := ok.con
  un := ok.un
  cls := ok.cls
  xk := fun h => by cases h
  own := ok.own
structure Sound (w : WP) : Prop where
  e : ∀ {X : Cx} {S : SC} {G : GE} {W : WX}, Ok X S G W → ∀ ex, PE X ex (upE X.K X.mg W (w.e S G ex))
  t : ∀ {X : Cx} {S : SC} {G : GE} {W : WX}, Ok X S G W → ∀ ex, PT X ex (upT X.K X.mg W (w.t S G ex))
  i : ∀ {X : Cx} {S : SC} {G : GE} {W : WX}, Ok X S G W → ∀ tg it, PI X tg it (upI X.K X.mg W (w.i S G tg it))
  g : ∀ {X : Cx} {S : SC} {G : GE} {W : WX}, Ok X S G W → ∀ tg, PG X tg (upG X.K X.mg (w.g S G tg))
  gw : ∀ {X : Cx} {S : SC} {G : GE} {W : WX}, Ok X S G W → ∀ vs tg, tgIn S.N vs tg = true → PG X tg (upGw X.K X.mg vs (w.g S G tg))
  s : ∀ {X : Cx} {S : SC} {G : GE} {W : WX}, Ok X S G W → ∀ st, PS X st (upS X.K X.mg W (w.s S G st))
  sl : ∀ {X : Cx} {S : SC} {G : GE} {W : WX}, Ok X S G W → ∀ x p i e pos, idx S.N x = some i → isComp e = true → swapOk S x p e = true →
    PS X (.Assign [.Name x p] e pos) (upS X.K X.mg W (fun D σ H => w.e S G e σ H (fun x H1 => D.ex x σ H1) fun v H1 => D.nx (σ.set i (some v)) H1))
theorem tests_low (ok : Ok X S G W) {t : Expr → TTx} (ht : ∀ e, PT X e (upT X.K X.mg W (t e))) (ifs : List Expr) : PTs X ifs (upT X.K X.mg W (testsW t ifs)) := by
  match ifs with
  | [] => exact ⟨fun pins s σ' H' Q' I ⟨σ, H, E, Q, rs, rh, q, kq, kx⟩ => pts_nil.run pins s σ' H' Q' I (kq _ _ _ q rh (.refl _))⟩
  | [c] => exact pts_one (ht c)
  | _ :: _ :: _ => exact ⟨fun pins s σ' H' Q' I ⟨σ, H, E, Q, rs, rh, q, kq, kx⟩ => q.elim⟩
theorem lc_parts {w : WP} (h : Sound w) (ok : Ok X S G W) {elt tg it : Expr} {ifs : List Expr} {scope : Scope} (hc : S.calm = true) (hb : blkC S.N S.sc scope (ownOf S.N scope) = true) (ht : tgIn S.N ((ownOf S.N scope).map (·.2)) tg = true) :
    BlkOk X.N X.env.scope scope (ownOf S.N scope) ∧
    (∀ (s : Shared) (H : Hp) (C : Addr) (cl : List (Str × Addr)) (fp : List Addr), PG (X.blk s H scope (compEnvC scope cl C X.env) fp) tg (upGw X.K X.mg ((ownOf S.N scope).map (·.2)) (w.g (S.blk scope) G tg))) ∧
    (∀ (s : Shared) (H : Hp) (C : Addr) (cl : List (Str × Addr)) (fp : List Addr), PTs (X.blk s H scope (compEnvC scope cl C X.env) fp) ifs (upT X.K X.mg (fun _ _ _ _ => False) (testsW (w.t (S.blk scope) G) ifs))) ∧
    ∀ (s : Shared) (H : Hp) (C : Addr) (cl : List (Str × Addr)) (fp : List Addr), PE (X.blk s H scope (compEnvC scope cl C X.env) fp) elt (upE X.K X.mg (fun _ _ _ _ => False) (w.e (S.blk scope) G elt)) := by
  refine ⟨by rw [ok.n, ok.sc]; exact blkOk_by hb, fun s H C cl fp => ?_, fun s H C cl fp => ?_, fun s H C cl fp => ?_⟩
  · exact h.gw (ok.blk hb s H C cl fp) _ tg ht
  · exact tests_low (ok.blk hb s H C cl fp) (h.t (ok.blk hb s H C cl fp)) ifs
  · exact h.e (ok.blk hb s H C cl fp) elt
theorem sound_e {w : WP} (h : Sound w) (ok : Ok X S G W) (ex : Expr) : PE X ex (upE X.K X.mg W (stepE w S G ex)) := by
  unfold stepE
  split
  · exact up_con pe_non fun H => .non
  · exact up_con pe_bl fun H => .bl _
  · exact up_con pe_int fun H => .int _
  · exact up_con pe_str fun H => .str _
  · exact p_name ok _ _
  · exact p_bin (h.e ok _) (h.e ok _)
  · exact p_un ok.un (h.e ok _)
  · exact p_andW (h.e ok) _
  · exact p_orW (h.e ok) _
  · exact p_if (h.t ok _) (h.e ok _) (h.e ok _)
  · exact p_cmp ok.un (h.e ok _) (h.e ok _)
  · exact p_chain ok.un (h.e ok _) (h.e ok _) (h.e ok _)
  · split
    · rename_i f p args pos a cs hit
      unfold isiTup at hit
      split at hit
      · rename_i hf
        subst hf
        split at hit
        · rename_i a' es k p2
          obtain ⟨cs', ecs, e2⟩ := Option.map_eq_some_iff.mp hit
          cases e2
          exact up_guard fun hi => up_guard fun hs => up_guard fun hn => p_isoT ok ecs hs hn.1 hn.2 hi (h.e ok a)
        · cases hit
      · cases hit
    · split
      · rename_i f p args pos _ a c hia
        unfold isiArgs at hia
        split at hia
        · rename_i hf
          subst hf
          split at hia
          · rename_i a' c' p2
            cases hia
            refine up_guard fun hi => up_guard fun hs => ?_
            split
            · exact up_guard fun hc => p_isi ok hc c hs hi (h.e ok a)
            · exact p_iso1 ok c hs hi (h.e ok a)
          · cases hia
        · cases hia
      · exact p_call ok _ (h.e ok) _ _ _
  · split
    · rename_i b hb
      refine up_guard fun h1 => up_guard fun h2 => up_guard fun h3 => up_guard fun h4 => ?_
      exact p_meth (h.e ok _) (h.e ok) hb h1 h2 h3 h4
    · exact up_bad fun _ _ _ _ q => q
  · exact up_guard fun h0 => p_attr ok (h.e ok _) h0
  · exact p_slice (h.e ok)
  · exact p_ix ok.un (h.e ok _) (h.e ok _)
  · exact up_guard fun hs => p_tup (p_args (h.e ok) hs)
  · exact up_guard fun hs => p_lst (p_args (h.e ok) hs)
  · refine up_guard fun hk => ?_
    by_cases h15 : (‹List (Option Expr)› : List (Option Expr)).length ≤ 15
    · exact p_dct (h.e ok) hk h15
    · exact up_bad fun σ H E Q q => h15 q.1
  · rename_i elt tg it ifs scope pos
    refine up_guard fun hb => up_guard fun hs => ?_
    simp only [Bool.and_eq_true] at hb
    obtain ⟨p1, p2, p3, p4⟩ := lc_parts (elt := elt) (it := it) (ifs := ifs) h ok hb.1.1 hb.1.2 hb.2
    exact pe_imp (pe_lc (ok.calm hb.1.1) (by rw [ok.n]; exact ok.nd) (h.i ok tg it) p1 p2 p3 p4 (noset hs)) fun σ' H' Q' q => lc_low q
  · exact up_bad fun _ _ _ _ q => q
theorem isTrue_of {e : Expr} {env : Env} (h : (match e with | .UnaryOp .Not _ _ => false | .BoolOp _ _ _ => false | .IfExp _ _ _ _ => false | .Compare _ _ _ _ => false | _ => true) = true) : ∀ whole, isTrue e env whole = (do let v ← whole; standAt e.pos; holding [v] (truthy v)) := by
  intro whole
  cases e <;> first
    | rfl
    | (cases h; done)
    | skip
  rename_i op a p
  cases op <;> first
    | rfl
    | (cases h; done)
theorem sound_t {w : WP} (h : Sound w) (ok : Ok X S G W) (ex : Expr) : PT X ex (upT X.K X.mg W (stepT w S G ex)) := by
  unfold stepT
  split
  · exact q_not (h.t ok _)
  · exact q_andE (h.t ok) _
  · exact q_orE (h.t ok) _
  · exact ut_bad fun _ _ _ _ q => q
  · exact q_cmp ok.un (h.e ok _) (h.e ok _)
  · exact q_chain ok.un (h.e ok _) (h.e ok _) (h.e ok _)
  · exact ut_bad fun _ _ _ _ q => q
  · rename_i h1 h2 h3 h4 h5 h6 h7
    refine q_tru (h.e ok _) (isTrue_of ?_)
    cases ex <;> first
      | rfl
      | skip
    · rename_i op l p
      cases op
      · exact absurd rfl (h2 l p)
      · exact absurd rfl (h3 l p)
    · rename_i op a p
      cases op <;> first | rfl | exact absurd rfl (h1 a p)
    · exact absurd rfl (h4 _ _ _ _)
    · exact absurd rfl (h7 _ _ _ _)
theorem sound_i {w : WP} (h : Sound w) (ok : Ok X S G W) (tg it : Expr) : PI X tg it (upI X.K X.mg W (stepI w S G tg it)) := by
  unfold stepI
  split
  · split
    · rename_i f p a pos hf
      subst hf
      refine ui_guard fun hg => ?_
      simp only [Bool.and_eq_true] at hg
      exact i_range1 ok (h.e ok) (ok.gl hg.1) hg.2
    · split
      · rename_i f p a pos _ hf
        subst hf
        refine ui_guard fun hg => ?_
        simp only [Bool.and_eq_true] at hg
        cases tg <;> first
          | exact i_enum ok (h.e ok) (ok.gl hg.1.1) hg.2
          | (exact absurd hg.1.2 Bool.false_ne_true)
      · exact i_plain (h.e ok _)
  · split
    · rename_i f p a b pos hf
      subst hf
      refine ui_guard fun hg => ?_
      simp only [Bool.and_eq_true] at hg
      exact i_range2 ok (h.e ok) (ok.gl hg.1) hg.2
    · split
      · rename_i f p a b pos _ hf
        subst hf
        refine ui_guard fun hg => ?_
        simp only [Bool.and_eq_true] at hg
        cases tg <;> first
          | exact i_zip ok (h.e ok) (ok.gl hg.1.1) hg.2
          | (exact absurd hg.1.2 Bool.false_ne_true)
      · exact i_plain (h.e ok _)
  · exact i_plain (h.e ok _)
theorem sound_g {w : WP} (h : Sound w) (ok : Ok X S G W) (tg : Expr) : PG X tg (upG X.K X.mg (stepG w S G tg)) := by
  unfold stepG
  split
  · exact g_name ok _ _
  · refine pg_guard fun hs => pg_guard fun hc => ?_
    exact g_tup (ok.calm hc) (h.g ok) hs
  · refine pg_guard fun hs => pg_guard fun hc => ?_
    exact g_sub ok.un ⟨W, True.intro⟩ (h.e ok _) (h.e ok _) hs
  · exact pg_bad fun _ _ _ _ _ q => q
theorem nm_tg {N : List Str} {vs : List Nat} {e : Expr} (h : nmIn N vs e = true) : tgIn N vs e = true := by
  cases e <;> first | exact h | (cases h; done)
theorem sound_gw {w : WP} (h : Sound w) (ok : Ok X S G W) (vs : List Nat) (tg : Expr) (hv : tgIn S.N vs tg = true) : PG X tg (upGw X.K X.mg vs (stepG w S G tg)) := by
  cases tg <;> first | (cases hv; done) | skip
  · exact gw_name ok _ _ hv
  · rename_i ts k p
    unfold stepG
    simp only
    by_cases hs : noStars ts = true
    · by_cases hc : S.calm = true
      · refine pg_imp (gw_tup (ok.calm hc) (g := w.g S G) (fun e he => h.gw ok vs e (nm_tg he)) hs hv) fun v' σ' H' Q' ⟨σ, H, Q, x, rs, rh, rt, q, ks⟩ => ⟨σ, H, Q, x, rs, rh, rt, q.2.2, ks⟩
      · exact ⟨fun pins s σ' H' v w Q' I r ⟨σ, H, Q, x, rs, rh, rt, q, ks⟩ => absurd q.2.1 hc⟩
    · exact ⟨fun pins s σ' H' v w Q' I r ⟨σ, H, Q, x, rs, rh, rt, q, ks⟩ => absurd q.1 hs⟩
theorem swapped_plain {tg e : Expr} {env : Env} (h : (match tg with | .Tuple .. => false | .List .. => false | _ => true) = true) : swappedStores [tg] e env = pure none := by
  cases tg <;> first | rfl | (cases h; done)
theorem sound_sl {w : WP} (h : Sound w) (ok : Ok X S G W) (x : Str) (p : Pos) (i : Nat) (e : Expr) (pos : Pos) (hi : idx S.N x = some i) (hc : isComp e = true) (hw : swapOk S x p e = true) :
    PS X (.Assign [.Name x p] e pos) (upS X.K X.mg W (fun D σ H => stepE w S G e σ H (fun x H1 => D.ex x σ H1) fun v H1 => D.nx (σ.set i (some v)) H1)) := by
  cases e <;> first | (cases hw; done) | skip
  rename_i elt gens scope cpos
  simp only [swapOk, Bool.and_eq_true] at hw
  obtain ⟨⟨w1, w2⟩, w3⟩ := hw
  have hl : S.sc.names.lookup x = some .local := by
    split at w1
    · assumption
    · cases w1
  match gens with
  | [⟨tg, it, ifs, 0⟩] =>
    by_cases hb : (S.calm && blkC S.N S.sc scope (ownOf S.N scope) && tgIn S.N ((ownOf S.N scope).map (·.2)) tg) = true
    · by_cases hs : stepE.isSet it = false
      · have hb' := hb
        simp only [Bool.and_eq_true] at hb'
        obtain ⟨p1, p2, p3, p4⟩ := lc_parts (elt := elt) (it := it) (ifs := ifs) h ok hb'.1.1 hb'.1.2 hb'.2
        have hl' : X.env.scope.names.lookup x = some .local := by rw [ok.sc]; exact hl
        refine ps_imp (ps_setLc (ok.calm hb'.1.1) (by rw [ok.n]; exact ok.nd) (by rw [ok.n]; exact idx_some hi) hl' (sw_true ok.kd hl' w2 (by simpa using w3)) (h.i ok tg it) p1 p2 p3 p4 (noset hs)) fun D' σ' H' ⟨σ, H, D, rs, rh, q, kd⟩ => ?_
        exact lc_low ⟨σ, H, _, _, rs, rh, q.2.2, fun v T v' H1 hq rt rh1 k1 => kd.nx _ _ _ _ hq ((rs.keep k1.k).set i rt) rh1 k1, kd.x rs⟩
      · exact us_bad fun D σ H q => hs q.2.1
    · exact us_bad fun D σ H q => hb q.1
  | [] => exact us_bad fun D σ H q => q
  | ⟨tg, it, ifs, .ofNat (n + 1)⟩ :: r => cases r <;> exact us_bad fun D σ H q => q
  | ⟨tg, it, ifs, .negSucc n⟩ :: r => cases r <;> exact us_bad fun D σ H q => q
  | ⟨tg, it, ifs, 0⟩ :: _ :: _ => exact us_bad fun D σ H q => q
theorem us_need {α : Type} {e : Stmt} {o : Option α} {t : α → TSx} (h : ∀ a, o = some a → PS X e (upS X.K X.mg W (t a))) : PS X e (upS X.K X.mg W (fun D σ H => Need o fun a => t a D σ H)) := by
  cases o with
  | none => exact us_bad fun D σ H q => by obtain ⟨a, e, _⟩ := q; cases e
  | some a => exact ps_imp (h a rfl) fun D' σ' H' ⟨σ, H, D, rs, rh, ⟨b, e, q⟩, kd⟩ => by cases e; exact ⟨σ, H, D, rs, rh, q, kd⟩
theorem slot_of (ok : Ok X S G W) {n : Option Str} {oi : Option Nat} (h : slotOf S n = some oi) : (n = none ∧ oi = none) ∨ ∃ m i, n = some m ∧ oi = some i ∧ X.N[i]? = some m ∧ X.env.kindOf m = some .local := by
  cases n with
  | none => cases h; exact .inl ⟨rfl, rfl⟩
  | some m =>
    simp only [slotOf] at h
    split at h
    · rename_i hl
      obtain ⟨i, hi, e⟩ := Option.map_eq_some_iff.mp h
      subst e
      exact .inr ⟨m, i, rfl, rfl, by rw [ok.n]; exact idx_some hi, by show X.env.scope.names.lookup m = _; rw [ok.sc]; exact hl⟩
    · cases h
theorem names_of (ok : Ok X S G W) {x : Str} {u : Value} (h : clsOk S G x = true) (n : ClsNm X.mg x u) : Names X x u := by
  simp only [clsOk, Bool.and_eq_true, Bool.or_eq_true, beq_iff_eq] at h
  obtain ⟨⟨⟨h1, h2⟩, _⟩, h4⟩ := h
  obtain ⟨hd, _, hn⟩ := ok_name h1
  refine ⟨ok.gl h2, hd, ?_⟩
  rcases n with ⟨m, _⟩ | ⟨m, e1, e2⟩
  · exact .inl m
  · subst e1 e2
    exact .inr ⟨m, PyProof.Rows.Boot.«ValueError», hn⟩
theorem KD.back {K : PySem.W.Frag} {mg : Str → Option Value} {W W' : WX} {T0 T1 : TH} {H0 H1 : Hp} {D : TEnds} {D' : Ends} (kd : KD K mg W T0 H0 D D') (k : Stp T0 H0 T1 H1) (oi : Option Nat) : KD K mg W' T1 H1 (backT oi D) (backD oi D') := by
  have kd1 := kd.on k
  cases oi with
  | none => exact ⟨kd1.nx, kd1.rt, kd1.bk, kd1.ct, fun _ _ _ _ _ _ _ z => z.elim⟩
  | some i => exact ⟨fun σ T σ' H' q rs rh st => kd1.nx _ _ _ _ q (rs.forget i) rh st, kd1.rt, fun σ T σ' H' q rs rh st => kd1.bk _ _ _ _ q (rs.forget i) rh st, fun σ T σ' H' q rs rh st => kd1.ct _ _ _ _ q (rs.forget i) rh st, fun _ _ _ _ _ _ _ z => z.elim⟩
theorem try_hds {w : WP} (h : Sound w) (ok : Ok X S G W) : ∀ hds : List ExceptHandler, hds.all (hdOk S G) = true → ∃ l, HdT X hds l ∧ ∀ (T0 : TH) (H0 : Hp) (D : TEnds) (D' : Ends), KD X.K X.mg W T0 H0 D D' → ∀ e σ T c d σ' H', catchW w S G D hds e σ T → RS X.K H' σ σ' → RX X.K X.mg H' e c d → RH X.K X.mg T H' → Stp T0 H0 T H' → wTry X.K W D' l c d σ' H' := by
  intro hds
  induction hds with
  | nil => exact fun _ => ⟨[], .nil, fun T0 H0 D D' kd e σ T c d σ' H' q rs rx rh st => kd.ex _ _ _ _ _ _ _ q rs rx rh st⟩
  | cons hd r ih =>
    intro ha
    simp only [List.all_cons, Bool.and_eq_true] at ha
    obtain ⟨h1, h2⟩ := ha
    obtain ⟨l, hl, go⟩ := ih h2
    unfold hdOk at h1
    split at h1
    · rename_i x np n b₀ su pos'
      simp only [Bool.and_eq_true] at h1
      obtain ⟨oi, hoi⟩ := Option.isSome_iff_exists.mp h1.2
      obtain ⟨v, u, k, nm, hc, _⟩ := cls_nm ok h1.1 np
      refine ⟨(u, oi, upS X.K X.mg (fun _ _ _ _ => False) (blockW (w.s S.hot G) (b₀ :: su))) :: l, .cons (names_of ok h1.1 nm) (slot_of ok hoi) (fun a pn => s_block (h.s (ok.suite a pn)) _) hl, ?_⟩
      intro T0 H0 D D' kd e σ T c d σ' H' q rs rx rh st
      obtain ⟨b, hb, q⟩ := q
      obtain ⟨ci, hci, hr⟩ := Option.bind_eq_some_iff.mp hb
      obtain ⟨C, m, F⟩ := ok.cls _ ci hci
      obtain ⟨C', m', ec, xf⟩ := rx
      rw [m] at m'
      cases m'
      obtain ⟨u', nm', _, ex⟩ := F.rel _ (PySem.mem_of_lookup hr)
      rw [nm'.one nm] at ex
      subst ec
      refine ⟨b, ex, fun hb1 a na => ?_, fun hb0 => ?_⟩
      · rw [if_pos hb1] at q
        obtain ⟨oi', hoi', q⟩ := q
        rw [hoi] at hoi'
        cases hoi'
        have st2 : Stp T0 H0 (tupd T a (.exc e.cls e.fs)) (upd H' a (ExR (.ref C) d a)) := st.trans (.new na)
        have ro : RO X.K X.mg (upd H' a (ExR (.ref C) d a)) a (.exc e.cls e.fs) := ⟨C, d, m, upd_same, xf.keep (.new na)⟩
        refine ⟨_, _, _, ?_, rh.add na ro, q a (rh.free na), kd.back st2 oi⟩
        cases oi with
        | none => exact rs.keep (.new na)
        | some i => exact (rs.keep (.new na)).set i (.ref a)
      · rw [hb0, if_neg Bool.false_ne_true] at q
        exact go T0 H0 D D' kd e σ T _ d σ' H' q rs ⟨C, m, rfl, xf⟩ rh st
    · cases h1
theorem s_try {w : WP} (h : Sound w) (ok : Ok X S G W) (ht : S.top = true) {b : List Stmt} {h₀ : ExceptHandler} {hs : List ExceptHandler} {pos : Pos} (hk : (h₀ :: hs).all (hdOk S G) = true) :
    PS X (.Try b (h₀ :: hs) [] [] pos) (upS X.K X.mg W (fun D σ H => blockW (w.s S G) b { D with ex := catchW w S G D (h₀ :: hs) } σ H)) := by
  obtain ⟨l, hl, go⟩ := try_hds h ok (h₀ :: hs) hk
  obtain ⟨_, o1, o2⟩ := ok.own ht
  refine ps_imp (ps_tryT (tb := fun W' => upS X.K X.mg W' (blockW (w.s S G) b)) o1 o2 (by rw [ok.n]; exact ok.nd) ok.tk (fun W' pn xe tk po => s_block (h.s (ok.tr tk po)) b) hl) fun D' σ' H' ⟨σ, H, D, rs, rh, q, kd⟩ => ?_
  exact ⟨σ, H, _, rs, rh, q, ⟨kd.nx, kd.rt, kd.bk, kd.ct, fun e σ1 T c d σ1' H1 hq rs1 rx rh1 st => go _ _ D D' kd _ _ _ _ _ _ _ hq rs1 rx rh1 st⟩⟩
theorem sound_s {w : WP} (h : Sound w) (ok : Ok X S G W) (st : Stmt) : PS X st (upS X.K X.mg W (stepS w S G st)) := by
  unfold stepS
  split
  · refine us_guard fun hg => ?_
    simp only [Bool.and_eq_true] at hg
    obtain ⟨⟨⟨⟨⟨g1, g2⟩, _⟩, g4⟩, g5⟩, g6⟩ := hg
    obtain ⟨hd, _, _⟩ := ok_name g1
    refine us_need fun ci hci => ?_
    exact s_raise ok g4 g5 hci (ok.gl g2) hd (h.e ok) g6
  · refine us_guard fun hg => us_guard fun hk => ?_
    simp only [Bool.and_eq_true] at hg
    exact s_try h ok hg.2 hk
  · exact ps_imp ps_pass fun D' σ' H' ⟨σ, H, D, rs, rh, q, kd⟩ => kd.nx _ _ _ _ q rs rh (.refl _)
  · exact ps_imp ps_break fun D' σ' H' ⟨σ, H, D, rs, rh, q, kd⟩ => kd.bk _ _ _ _ q rs rh (.refl _)
  · exact ps_imp ps_continue fun D' σ' H' ⟨σ, H, D, rs, rh, q, kd⟩ => kd.ct _ _ _ _ q rs rh (.refl _)
  · exact ps_imp ps_retN fun D' σ' H' ⟨σ, H, D, rs, rh, q, kd⟩ => kd.rt _ _ _ _ q .non rh (.refl _)
  · exact s_ret (h.e ok _)
  · exact us_guard fun hc => s_expr hc (h.e ok _)
  · exact s_if (h.t ok _) (s_block (h.s ok) _) (s_block (h.s ok) _)
  · exact s_while ok.po (h.t ok _) (s_block (h.s ok) _)
  · exact us_guard fun hc => us_guard fun hs => s_for ok.po (ok.calm hc) (h.i ok _ _) (h.g ok _) (s_block (h.s ok) _) hs
  · split
    · rename_i x p e pos _ i hi
      refine us_guard fun hl => ?_
      simp only [Bool.and_eq_true, Bool.or_eq_true, Bool.not_eq_true'] at hl
      cases hc : isComp e with
      | false => exact s_set ok hi hl.1 hc (h.e ok _)
      | true => exact h.sl ok x p i e pos hi hc (hl.2.elim (fun z => by rw [hc] at z; cases z) id)
    · exact us_bad fun _ _ _ q => q
  · split
    · rename_i ts k p e pos i j vs hp
      obtain ⟨x, p1, y, q1, a, b, k2, r, rfl, rfl, rfl, hi, hj, c1, c2, c3, c4, c5, c6, c7, c8, c9⟩ := parOf_some hp
      exact us_guard fun hc => s_par ok (ok.calm hc) (h.e ok) hi hj c9 c1 c2 c3 c4 c5 c6 c7 c8
    · refine us_guard fun hn => ?_
      simp only [Bool.and_eq_true, Bool.not_eq_true'] at hn
      exact s_asg (h.e ok _) (h.g ok _) hn.2 (noPar_ok ok hn.1) rfl
  · refine us_guard fun hn => ?_
    exact s_asg (h.e ok _) (h.g ok _) (by simpa using hn) (swapped_plain rfl) rfl
  · split
    · rename_i x p op e pos i hi
      refine us_guard fun hl => ?_
      simp only [Bool.and_eq_true] at hl
      exact s_aug ok hi hl.1 hl.2 (h.e ok _)
    · exact us_bad fun _ _ _ q => q
  · exact us_bad fun _ _ _ q => q
theorem sound_bot : Sound .bot where
  e _ _ := up_bad fun _ _ _ _ q => q
  t _ _ := ut_bad fun _ _ _ _ q => q
  i _ _ _ := ⟨fun pins s σ' H' Q' I ⟨σ, H, E, Q, rs, rh, q, kq, kx⟩ => q.elim⟩
  g _ _ := pg_bad fun _ _ _ _ _ q => q
  gw _ _ _ _ := ⟨fun pins s σ' H' v w Q' I r ⟨σ, H, Q, x, rs, rh, rt, q, ks⟩ => q.elim⟩
  s _ _ := us_bad fun _ _ _ q => q
  sl _ _ _ _ _ _ _ _ _ := us_bad fun _ _ _ q => q
theorem sound : ∀ n, Sound (wp n)
  | 0 => sound_bot
  | n + 1 => ⟨fun ok => sound_e (sound n) ok, fun ok => sound_t (sound n) ok, fun ok => sound_i (sound n) ok, fun ok => sound_g (sound n) ok, fun ok => sound_gw (sound n) ok, fun ok => sound_s (sound n) ok,
    fun ok x p i e pos => sound_sl (sound n) ok x p i e pos⟩
end
end TL


set_option Elab.async false
set_option linter.all false
set_option maxRecDepth 100000
/-! TL7: a def's promise from its body over trees; the law's own call. -/
namespace TL
open PySem PySem.Spec PyProof.Rows L2
theorem grd_deeper {A : Around} {env : Env} (h : A.guards = some []) : (A.deeper env).guards = some [] := by
  first
    | exact h
    | simpa [Around.deeper] using h
/-- the names' values at the entry -/
def startT (N : List Str) (vs : List TV) : TSt := vs.map some ++ List.replicate (N.length - vs.length) none
theorem RTs.len {K : PySem.W.Frag} {H : Hp} : ∀ {xs : List TV} {vs : List V}, RTs K H xs vs → xs.length = vs.length
  | _, _, .nil => rfl
  | _, _, .cons _ b => by simp [b.len]
theorem RTs.at {K : PySem.W.Frag} {H : Hp} : ∀ {xs : List TV} {vs : List V}, RTs K H xs vs → ∀ {i : Nat} {x : TV}, xs[i]? = some x → ∃ v, vs[i]? = some v ∧ RT K H x v
  | _, _, .nil, i, x, h => by simp at h
  | _, _, .cons a b, 0, x, h => by
    simp at h
    subst h
    exact ⟨_, rfl, a⟩
  | _, _, .cons a b, i + 1, x, h => by
    obtain ⟨v, e, r⟩ := b.at (i := i) (by simpa using h)
    exact ⟨v, by simpa using e, r⟩
theorem rs_start {K : PySem.W.Frag} {H : Hp} {N : List Str} {xs : List TV} {vs : List V} (r : RTs K H xs vs) : RS K H (startT N xs) (L2.start N vs) := by
  refine ⟨?_, fun i x e => ?_⟩
  · unfold startT L2.start
    simp [r.len]
  · unfold startT at e
    by_cases hi : i < xs.length
    · rw [List.getElem?_append_left (by simpa using hi), List.getElem?_map] at e
      cases q : xs[i]? with
      | none => rw [q] at e; cases e
      | some y =>
        rw [q] at e
        cases e
        obtain ⟨v, e1, r1⟩ := r.at q
        refine ⟨v, ?_, r1⟩
        have hj : i < vs.length := by rw [← r.len]; exact hi
        unfold L2.start
        rw [List.getElem?_append_left (by simpa using hj), List.getElem?_map, e1]
        rfl
    · rw [List.getElem?_append_right (by simpa using hi), List.getElem?_replicate] at e
      split at e <;> cases e
/-- what a def needs of the program and the module's names, wherever it is called -/
structure Env1 (P : Program) (w : World) (K : PySem.W.Frag) (mg : Str → Option Value) (base : Heap) (k : Nat) (G : GE) : Prop where
  blt : ∀ x ∈ bNames, mg x = none
  fns : ∀ x sp, G.fn x = some sp → ∃ f fd ps, mg x = some (.ref f) ∧ PySem.W.keepIn K (.ref f) = true ∧ FnG P w K mg base k f fd ps (lowSp K mg ps.length sp) ∧ Binds K fd ps [] ∧ ∀ vs H E Q, sp vs H E Q → vs.length = ps.length
  con : ∀ x v, G.con x = some v → ∃ u v', mg x = some u ∧ RelV v' u ∧ ∀ H, RT K H v v'
  cls : ClsG K mg G
  xk : ∀ c ci, G.cls c = some ci → XkA P w K mg base k c ci.xk
theorem pss_block {X : Cx} {W : WX} {w : Stmt → TSx} (h : ∀ st, PS X st (upS X.K X.mg W (w st))) (b : List Stmt) : PSs X b (upS X.K X.mg W (blockW w b)) := s_block h b
section
variable {P : Program} {w : World} {K : PySem.W.Frag} {mg : Str → Option Value} {base : Heap} {k : Nat} {f : Addr} {fd : FuncData} {x qual : Str} {st : Stmt} {N ps : List Str} {G : GE} {n : Nat}
theorem ok_cx {A : Around} {outer : List Env} {s : Shared} {H : Hp} {E : XK} {cdv : Value} (S : FnScope N ps (defScope st)) (V1 : Env1 P w K mg base k G) (hr : Room (k + 1) A) (hgd : A.guards = some []) :
    Ok (cxOf (L2.CX P w) P w K mg base N qual (defScope st) f cdv A outer s H E) ⟨N, defScope st, fun _ => true, true, true⟩ G (fun cls d _ H' => E cls d H') :=
  { n := rfl, nd := S.nd, sc := rfl, kd := S.kind, fn := rfl, calm := fun _ => rfl, grd := fun _ => grd_deeper hgd, tk := takes_of rfl rfl rfl (by rfl), po := passes_of rfl, blt := V1.blt,
    fns := fun _ y sy hy => by
      obtain ⟨g, gd, qs, a, b, c, d, e⟩ := V1.fns y sy hy
      exact ⟨k, g, gd, qs, a, b, c, d, hr.deeper _, e⟩
    con := V1.con
    un := by have := (hr.deeper (envOfC qual (defScope st) s.heap.objs.size f cdv)).un; show (A.deeper _).units + 100 < _; omega
    cls := V1.cls
    xk := fun _ c ci hc => ⟨k, V1.xk c ci hc, hr.deeper _⟩
    own := fun _ => ⟨rfl, rfl, rfl⟩ }
/-- a def keeps its promise (of the layer) where its body comes to it -/
theorem fnG_run {sp : Sp} (F : Fun K x qual st f fd) (S : FnScope N ps (defScope st)) (len : ∀ vs H Q E, sp vs H Q E → vs.length = ps.length)
    (body : ∀ (cdv : Value) (A : Around) (outer : List Env) (s : Shared) (H : Hp) (vs : List V) (Q : VK) (E : XK), Room (k + 1) A → A.guards = some [] → sp vs H Q E →
      ∃ t, PSs (cxOf (L2.CX P w) P w K mg base N qual (defScope st) f cdv A outer s H E) (defBody st) t ∧ t ⟨fun _ H' => Q .non H', Q, fun _ _ => False, fun _ _ => False⟩ (L2.start N vs) H) : FnG P w K mg base (k + 1) f fd ps sp := by
  obtain ⟨oc, od, kV, doc, pm, an, cdv, ct, osl, rfl, lk, hcd⟩ := F.ex
  refine ⟨len, fun A outer s H args us vs Q E hr hgd e0 hb r hsp => ?_⟩
  have hl := len _ _ _ _ hsp
  have KX : K.In s.heap := e0.mod.kin.keeps fun b o e => (e0.bs b o e).1
  have lim : s.heap.NoLimit := e0.mod.nolimit.keeps fun b o e => (e0.bs b o e).1
  have kinds : ∀ y ∈ ps.zip us, (defScope st).names.lookup y.1 = some .local ∨ ((defScope st).names.lookup y.1 = some .cell ∧ ((cellsFrom (s.heap.objs.size + 1) (defScope st).names []).lookup y.1).isSome = true) := fun ⟨n, v⟩ hy =>
    (S.par n (List.of_mem_zip hy).1).elim .inl fun q => .inr ⟨q, PySem.W.cellsFrom_some _ _ _ (.inl q)⟩
  refine codeAny_call_function hr.depth (KX _ _ lk) rfl S.co S.gen rfl (PySem.W.codeRec_of KX hcd) (hb _ _ _ _ ?_)
  refine wpAny_newFunctionEnv_cells S.kind kinds fun env he s1 x => ?_
  subst he
  refine ⟨lim.keeps x.toInCall.keep, codeAny_func ?_⟩
  obtain ⟨t, ht, q⟩ := body cdv A outer s H vs Q E hr hgd hsp
  have I : Inv (cxOf (L2.CX P w) P w K mg base N qual (defScope st) f cdv A outer s H E) [] (L2.start N vs) H s1 := inv_start S hr.hd e0 hl r x
  refine wpAny_mono (ht.run [] s1 (L2.start N vs) H ⟨fun _ H' => Q .non H', Q, fun _ _ => False, fun _ _ => False⟩ I q) (fun fl s' hs => ?_) fun e s' hs => hs
  have fin : ∀ {σ' : L2.St} {H' : Hp} {v : V} {u : Value}, Inv (cxOf (L2.CX P w) P w K mg base N qual (defScope st) f cdv A outer s H E) [] σ' H' s' → RelV v u → Q v H' → CE outer P w H s Q u s' :=
    fun {σ' H' v u} J rv q => ⟨v, H', J.os, J.bare, J.base, J.hok, rv, q⟩
  cases fl with
  | ret u =>
    obtain ⟨v, σ', H', J, rv, q⟩ := hs
    exact fin J rv q
  | next =>
    obtain ⟨σ', H', J, q⟩ := hs
    exact fin (v := V.non) (u := Value.none) J rfl q
  | brk =>
    obtain ⟨_, _, _, q⟩ := hs
    exact False.elim q
  | cont =>
    obtain ⟨_, _, _, q⟩ := hs
    exact False.elim q
/-- a def keeps its promise where its body comes to it -/
theorem fnG_of {sp : TSp} (F : Fun K x qual st f fd) (S : FnScope N ps (defScope st)) (V1 : Env1 P w K mg base k G)
    (len : ∀ vs H E Q, sp vs H E Q → vs.length = ps.length)
    (body : ∀ vs H E Q, sp vs H E Q → blockW ((wp n).s ⟨N, defScope st, fun _ => true, true, true⟩ G) (defBody st) ⟨fun _ H => Q .non H, Q, fun _ _ => False, fun _ _ => False, fun e _ H => E e H⟩ (startT N vs) H) :
    FnG P w K mg base (k + 1) f fd ps (lowSp K mg ps.length sp) := by
  refine fnG_run F S (fun vs H Q E ⟨us, H1, E1, Q1, hl, r, _⟩ => by rw [← r.len]; exact hl) fun cdv A outer s H vs Q E hr hgd hsp => ?_
  obtain ⟨us0, H1, E1, Q1, hl1, rts, rh, q, kq, kx⟩ := hsp
  refine ⟨_, pss_block (fun s => (sound n).s (ok_cx S V1 hr hgd) s) (defBody st), startT N us0, H1, _, rs_start rts, rh, body us0 H1 E1 Q1 q, ?_⟩
  exact ⟨fun σ T σ' H' a _ b c => kq _ _ _ _ a .non b c, kq, fun σ T σ' H' a _ b c => a, fun σ T σ' H' a _ b c => a, fun e σ T c d σ' H' a _ b r2 z => kx _ _ _ _ _ a b r2 z⟩
end
end TL


set_option Elab.async false
set_option linter.all false
set_option maxRecDepth 100000
/-! TL7b: the making of exceptions keeps its promise. -/
namespace TL
open PySem PySem.Spec PyProof.Rows L2
abbrev veMro : List Value := [.type "ValueError", .type "Exception", .type "BaseException", .type "object"]
/-- a class without an own __init__ -/
def xkA : XSp := fun xs _ Q => xs.length ≤ 1000 ∧ Q []
theorem xkA_own {P : Program} {w : World} {K : PySem.W.Frag} {mg : Str → Option Value} {base : Heap} {k : Nat} {c : Str} {C : Addr} (gC : mg c = some (.ref C)) (kC : PySem.W.keepIn K (.ref C) = true) (bC : PySem.W.subIn K (.ref C) (.type "BaseException") = some true)
    (tC : PySem.W.typeIn K (.ref C) = some (.type "type")) (q : PySem.W.excIn K C veMro "ValueError.__new__" = true) : XkA P w K mg base k c xkA := by
  refine ⟨C, gC, kC, bC, tC, fun X pins σ H s us vs xs T Q E h1 h2 h3 h4 h5 h6 hr hg I rv rt rh hx => ?_⟩
  subst h1 h2 h3 h4 h5
  obtain ⟨bm, N, nm, qn, bs, hdct, sn, sub, ab, col, dd, k0, k1, k2, k3, k5, mN, hC, hN, hni, TT⟩ := exc_obj I.kIn q
  refine wpAny_call_exc_subT PySem.F.excBase_ValueError TT hC hN hni (fun h' e hm => ?_) (by rw [← rv.length, ← rt.length]; exact Nat.le_trans hx.1 (by decide))
  exact mk_of I hm (raises_own bC tC) ⟨rfl, [], hx.2, .inl ⟨rfl, rfl⟩, rh, .refl _⟩ (I.hok.gone hm.new)
/-- a class that is never made -/
def xkNo : XSp := fun _ _ _ => False
theorem xkNo_own {P : Program} {w : World} {K : PySem.W.Frag} {mg : Str → Option Value} {base : Heap} {k : Nat} {c : Str} {C : Addr} (gC : mg c = some (.ref C)) (kC : PySem.W.keepIn K (.ref C) = true) (bC : PySem.W.subIn K (.ref C) (.type "BaseException") = some true)
    (tC : PySem.W.typeIn K (.ref C) = some (.type "type")) : XkA P w K mg base k c xkNo := ⟨C, gC, kC, bC, tC, by intros; exact False.elim (by assumption)⟩
/-! ### a class whose __init__ calls FlowError's and stores its two arguments -/
/-- FlowError.__init__: the one of ValueError -/
structure FeC (K : PySem.W.Frag) (CF : Addr) : Prop where
  rd : PySem.W.readsIn K CF (.type "type") = true
  ga : PySem.W.specialIn K (.ref CF) "__getattribute__" = some (some (.builtin "type.__getattribute__"))
  vi : PySem.W.findCls K (.ref CF) (.type "type") "__init__" = some (.val (.builtin "ValueError.__init__"))
theorem meth_form {o : Expr} {m : Str} {apos pos : Pos} {es : List Expr} {env : Env} (h0 : notCall0 o = true) (hl : (apos.endLine == pos.line) = true) (hn : es.length < 30) (hs : noStars es = true) : eval (.Call (.Attribute o m apos) es [] pos) env = (do
      let ov ← eval o env
      standAt apos.atName
      let (f, first) ← holding [ov] (getMethod ov m (do return (← importBound o env).getD true))
      callWith pos f first (backTo pos (starEach es env)) (backToKw pos (keywordEach [] env))) := by
  have hform : methodCallForm (es.length + ([] : List Keyword).length) (backTo pos (starEach es env)) (backToKw pos (keywordEach [] env)) = true := by
    unfold methodCallForm
    rw [noStarsAll hs]
    simp only [Bool.true_and]
    simpa [backToKw, keywordEach] using hn
  have hpos : methodCallPos true o env apos pos = pure pos := by unfold methodCallPos; simp [hl]
  rw [arm_eval_Call, base_of h0]
  unfold methodCall
  rw [hform]
  simp only [hpos]
  rfl
theorem pe_feinit {X : Cx} {CF : Addr} {c : Str} {e : Expr} {es : List Expr} {ta : TA} {p1 p2 pos : Pos} (hg : Gl X c) (hm : X.mg c = some (.ref CF)) (FC : FeC X.K CF) (ha : PA X (e :: es) ta) (hdb : (c == ("__debug__" : Str)) = false) (hl : (p2.endLine == pos.line) = true) (hn : (e :: es).length < 30) (hs : noStars (e :: es) = true) :
    PE X (.Call (.Attribute (.Name c p1) "__init__" p2) (e :: es) [] pos) (tVeI X.K ta) := by
  refine ⟨fun pins s σ H Q I h => ?_⟩
  refine PySem.W.methodCall_KW (ld_glob I hg hm ?_ hdb) (meth_form rfl hl hn hs)
  refine PySem.W.method_cls I.kIn FC.ga (PySem.W.cls_value I.kIn FC.rd FC.vi (by decide +kernel) ?_)
  show wpAny _ _ (callWith pos (Value.builtin "ValueError.__init__") [] (backTo pos (starEach (e :: es) X.env)) []) _ _ _
  refine PyProof.Rows.callWith_method1 (thn (ha.run pos pins _ σ H _ (I.tok _) h) fun us s1 ⟨vs, H1, I1, r1, a, C, ws, ev, hlw, T, ea, q⟩ => ?_) (starOne (stars_of hs e List.mem_cons_self)) (starNone fun e' he => stars_of hs e' (List.mem_cons_of_mem _ he))
  subst ev
  cases r1 with
  | @cons _ u0 _ ur ra rw' =>
    obtain rfl : u0 = Value.ref a := ra
    have hlen : ur.length ≤ sizeLine := by
      rw [← Paired.length rw', sizeLine_eq]
      omega
    exact oinit_ok T I1 ea hlen fun s' J => ⟨.non, H1, J, rfl, q⟩
/-- what two values are told -/
def xkB (ok : TV → TV → Prop) (f1 f2 : Str) : XSp := fun xs _ Q => ∃ v1 v2, xs = [v1, v2] ∧ ok v1 v2 ∧ Q [(f2, v2), (f1, v1)]
/-- __init__'s promise, of the layer -/
def spB (K : PySem.W.Frag) (mg : Str → Option Value) (C : Addr) (ok : TV → TV → Prop) (f1 f2 : Str) : Sp := fun vs H Q _ => ∃ (a : Addr) (y1 y2 : V) (v1 v2 : TV) (T : TH), vs = [.ref a, y1, y2] ∧ H a = some (exo a C none) ∧ RT K H v1 y1 ∧ RT K H v2 y2 ∧ RH K mg T H ∧ T a = none ∧ ok v1 v2 ∧
  ∀ H1 dx, RH K mg T H1 → Stp T H T H1 → H1 dx = none → dx ≠ a → Q .non (upd (upd (upd H1 dx (exd dx [(f1, y1)])) a (exo a C (some dx))) dx (exd dx [(f2, y2), (f1, y1)]))
section
variable {P : Program} {w : World} {K : PySem.W.Frag} {mg : Str → Option Value} {base : Heap} {k : Nat}
theorem init_ok {fI CF C : Addr} {fd : FuncData} {qual cF a1 a2 f1 f2 : Str} {st : Stmt} {G : GE} {n : Nat} {ok : TV → TV → Prop} {te : Expr} {p1 p2 p3 p4 p5 p6 p7 p8 p9 p10 p11 p12 p13 : Pos}
    (F : Fun K "__init__" qual st fI fd) (S : FnScope ["self", a1, a2] ["self", a1, a2] (defScope st)) (V1 : Env1 P w K mg base k G) (T : OexC K C) (h1 : PySem.W.findIn K (.ref C) f1 = some none) (h2 : PySem.W.findIn K (.ref C) f2 = some none)
    (hm : mg cF = some (.ref CF)) (FC : FeC K CF) (hgl : (defScope st).names.lookup cF = some .globalImplicit) (hdb : (cF == ("__debug__" : Str)) = false)
    (hv0 : (defScope st).names.lookup ("self" : Str) = some .local) (hv1 : (defScope st).names.lookup a1 = some .local) (hv2 : (defScope st).names.lookup a2 = some .local) (hok1 : okName a1 = true) (hok2 : okName a2 = true) (hst : isStar te = false) (hline : (p2.endLine == p4.line) = true)
    (ht : ∀ a v1 v2 H E Q, ok v1 v2 → (∀ x, Q (.str x) H) → (wp n).e ⟨["self", a1, a2], defScope st, fun _ => true, true, true⟩ G te [some (.ref a), some v1, some v2] H E Q)
    (hb : defBody st = [.Expr (.Call (.Attribute (.Name cF p1) "__init__" p2) [.Name "self" p3, te] [] p4) p5, .Assign [.Attribute (.Name "self" p6) f1 p7] (.Name a1 p8) p9, .Assign [.Attribute (.Name "self" p10) f2 p11] (.Name a2 p12) p13]) :
    FnG P w K mg base (k + 1) fI fd ["self", a1, a2] (spB K mg C ok f1 f2) := by
  refine fnG_run F S (fun vs H Q E ⟨a, y1, y2, _, _, _, e, _⟩ => by rw [e]; rfl) fun cdv A outer s H vs Q E hr hgd hsp => ?_
  obtain ⟨a, y1, y2, v1, v2, T0, rfl, ea, r1, r2, rh, na, hok, fin⟩ := hsp
  have okc := ok_cx (cdv := cdv) (outer := outer) (s := s) (H := H) (E := E) (qual := qual) (f := fI) S V1 hr hgd
  obtain ⟨d1, c1, _⟩ := ok_name hok1
  obtain ⟨d2, c2, _⟩ := ok_name hok2
  have n0 : PE (cxOf (L2.CX P w) P w K mg base ["self", a1, a2] qual (defScope st) fI cdv A outer s H E) (.Name "self" p3) (tVar 0) := pe_var rfl (.inl hv0) (by decide +kernel) (by decide +kernel)
  have n06 : PE (cxOf (L2.CX P w) P w K mg base ["self", a1, a2] qual (defScope st) fI cdv A outer s H E) (.Name "self" p6) (tVar 0) := pe_var rfl (.inl hv0) (by decide +kernel) (by decide +kernel)
  have n010 : PE (cxOf (L2.CX P w) P w K mg base ["self", a1, a2] qual (defScope st) fI cdv A outer s H E) (.Name "self" p10) (tVar 0) := pe_var rfl (.inl hv0) (by decide +kernel) (by decide +kernel)
  have n1 : PE (cxOf (L2.CX P w) P w K mg base ["self", a1, a2] qual (defScope st) fI cdv A outer s H E) (.Name a1 p8) (tVar 1) := pe_var rfl (.inl hv1) d1 c1
  have n2 : PE (cxOf (L2.CX P w) P w K mg base ["self", a1, a2] qual (defScope st) fI cdv A outer s H E) (.Name a2 p12) (tVar 2) := pe_var rfl (.inl hv2) d2 c2
  have hns : noStars [.Name "self" p3, te] = true := by
    unfold noStars
    rw [List.all_cons, List.all_cons, hst]
    rfl
  have e1 := pe_feinit (X := cxOf (L2.CX P w) P w K mg base ["self", a1, a2] qual (defScope st) fI cdv A outer s H E) (p1 := p1) (p2 := p2) (pos := p4) (c := cF) hgl hm FC (pa_cons n0 (pa_cons ((sound n).e okc te) pa_nil (starOne hst)) (starOne rfl)) hdb hline (by show 2 < 30; omega) hns
  rw [hb]
  refine ⟨_, pss_cons (ps_expr e1) (pss_cons (ps_ost (p' := p7) (pos := p9) n06 n1) (pss_one (ps_ost (p' := p11) (pos := p13) n010 n2))), ?_⟩
  refine ⟨.ref a, rfl, ?_⟩
  refine ⟨[some (.ref a), some v1, some v2], T0, fun _ _ => False, fun x T => (∃ y, x = .str y) ∧ T = T0, ⟨rfl, fun i x e => ?_⟩, rh, ht a v1 v2 _ _ _ hok fun x => ⟨⟨x, rfl⟩, rfl⟩, ?_, fun _ _ _ _ _ z => z.elim⟩
  · match i, e with
    | 0, e => cases e; exact ⟨.ref a, rfl, .ref a⟩
    | 1, e => cases e; exact ⟨y1, rfl, r1⟩
    | 2, e => cases e; exact ⟨y2, rfl, r2⟩
    | i + 3, e => simp at e
  rintro x T1 v H1 ⟨⟨x', rfl⟩, rfl⟩ rt rh1 st1
  have ea1 : H1 a = some (exo a C none) := by
    rw [(st1.fr a na (by rw [ea]; exact fun z => nomatch z)).2, ea]
  refine ⟨a, C, [v], rfl, (by show 1 ≤ 1000; omega), T, ea1, ?_⟩
  refine ⟨y1, rfl, .ref a, rfl, a, C, rfl, T, h1, .inl ⟨ea1, fun dx hdx ne => ?_⟩⟩
  refine ⟨y2, rfl, .ref a, rfl, a, C, rfl, T, h2, .inr ⟨dx, [(f1, y1)], upd_same, ?_, (by show 1 ≤ 900; omega), ?_⟩⟩
  · rw [upd_ne ne, upd_same]
  · exact fin H1 dx rh1 st1 hdx ne
theorem xkB_own {kk : Nat} {c : Str} {C fI : Addr} {fd : FuncData} {a1 a2 f1 f2 : Str} {ok : TV → TV → Prop} (gC : mg c = some (.ref C)) (T : OexC K C) (iC : PySem.W.findIn K (.ref C) "__init__" = some (some (.ref fI))) (tI : PySem.W.typeIn K (.ref fI) = some (.type "function"))
    (F : FnG P w K mg base kk fI fd ["self", a1, a2] (spB K mg C ok f1 f2)) (hb : Binds K fd ["self", a1, a2] []) : XkA P w K mg base (kk + 1) c (xkB ok f1 f2) := by
  refine ⟨C, gC, T.kC, T.exC, T.tyC, fun X pins σ H s us vs xs T0 Q E e1 e2 e3 e4 e5 e6 hr hg I rv rt rh hx => ?_⟩
  subst e1 e2 e3 e4 e5
  obtain ⟨v1, v2, rfl, hok, hq⟩ := hx
  obtain ⟨nm, q, N, bs, bm, sn, sub, ab, col, dd, k0, k1, k2, k3, k5, hC, hbm⟩ := T.cls
  obtain ⟨y1, y2, rfl, r1, r2⟩ := rts2 rt
  obtain ⟨hp, g, dr, tk, os⟩ := s
  have hsz : hp.objs.size ≤ hp.objs.size + 1 := Nat.le_succ _
  have hn : H (hp.objs.size + 1) = none := I.hok.fresh hsz
  have kk : ∀ b o, hp.get? b = some o → ((hp.push (PySem.W.kdv_tup us)).push (PySem.HandSPX.excO C hp.objs.size)).get? b = some o := fun b o e => Heap.get?_push_of_some _ (Heap.get?_push_of_some _ e)
  have hget : ((hp.push (PySem.W.kdv_tup us)).push (PySem.HandSPX.excO C hp.objs.size)).get? (hp.objs.size + 1) = some (PySem.HandSPX.excO C hp.objs.size) := by heap_get
  have I2 : Inv X pins σ (upd H (hp.objs.size + 1) (exo (hp.objs.size + 1) C none)) ⟨(hp.push (PySem.W.kdv_tup us)).push (PySem.HandSPX.excO C hp.objs.size), g, dr, tk, os⟩ :=
    I.laid (t' := tk) (a := hp.objs.size + 1) (o := exo (hp.objs.size + 1) C none) (h' := (hp.push (PySem.W.kdv_tup us)).push (PySem.HandSPX.excO C hp.objs.size)) kk hsz (exo_ok hget)
  have rv2 : Vals (V.ref (hp.objs.size + 1) :: [y1, y2]) (Value.ref (hp.objs.size + 1) :: us) := .cons rfl rv
  have hus : us.length ≤ sizeLine := by
    rw [← Paired.length rv]
    exact (by decide : (2 : Nat) ≤ sizeLine)
  have ne1 := fun (b : Addr) (u : HO) (e : H b = some u) => ne_of_none e hn
  have sp1 : spB X.K X.mg C ok f1 f2 [.ref (hp.objs.size + 1), y1, y2] (upd H (hp.objs.size + 1) (exo (hp.objs.size + 1) C none)) (fun v H2 => v = .non ∧ ∃ (d : Addr) (fs : List (Str × V)), H2 (hp.objs.size + 1) = some (exo (hp.objs.size + 1) C (some d)) ∧ H2 d = some (exd d fs) ∧ H d = none ∧
      (∃ gs, Q gs ∧ XFs X.K (upd (L2.del H2 (hp.objs.size + 1)) d (.xd fs)) (some d) gs ∧ RH X.K X.mg T0 (upd (L2.del H2 (hp.objs.size + 1)) d (.xd fs)) ∧ Stp T0 H T0 (upd (L2.del H2 (hp.objs.size + 1)) d (.xd fs)))) (fun _ _ _ => False) := by
    refine ⟨_, y1, y2, v1, v2, T0, rfl, upd_same, r1.keep (.new hn), r2.keep (.new hn), rh.new hn, rh.free hn, hok, fun H1 dx rh1 st1 hdx ne => ⟨rfl, dx, [(f2, y2), (f1, y1)], ?_, upd_same, ?_, _, hq, ?_⟩⟩
    · rw [upd_ne (Ne.symm ne), upd_same]
    · cases q : H dx with
      | none => rfl
      | some o =>
        exfalso
        cases q2 : T0 dx with
        | none =>
          have z := (st1.fr dx q2 (by rw [upd_ne (ne1 dx o q), q]; exact fun z => nomatch z)).2
          rw [hdx, upd_ne (ne1 dx o q), q] at z
          cases z
        | some t =>
          obtain ⟨u, z⟩ := (rh1 dx t q2).some
          rw [hdx] at z
          cases z
    · have ea1 : H1 (hp.objs.size + 1) = some (exo (hp.objs.size + 1) C none) := by
        rw [(st1.fr _ (rh.free hn) (by rw [upd_same]; exact fun z => nomatch z)).2, upd_same]
      have fin : ∀ b, b ≠ hp.objs.size + 1 → b ≠ dx → upd (L2.del (upd (upd (upd H1 dx (exd dx [(f1, y1)])) (hp.objs.size + 1) (exo (hp.objs.size + 1) C (some dx))) dx (exd dx [(f2, y2), (f1, y1)])) (hp.objs.size + 1)) dx (.xd [(f2, y2), (f1, y1)]) b = H1 b := fun b n1 n2 => by
        rw [upd_ne n2, del_ne n1, upd_ne n2, upd_ne n1, upd_ne n2]
      have ke : Keep H1 (upd (L2.del (upd (upd (upd H1 dx (exd dx [(f1, y1)])) (hp.objs.size + 1) (exo (hp.objs.size + 1) C (some dx))) dx (exd dx [(f2, y2), (f1, y1)])) (hp.objs.size + 1)) dx (.xd [(f2, y2), (f1, y1)])) := by
        have n2 : ∀ b u, H1 b = some u → b ≠ dx := fun b u e => ne_of_none e hdx
        refine ⟨fun b xs e => ?_, fun b o u e => ?_, fun b xs e => ?_⟩
        · rw [fin b (fun z => by rw [z, ea1] at e; exact exo_tup (Option.some.inj e)) (n2 _ _ e)]; exact e
        · rw [fin b (fun z => by rw [z, ea1] at e; exact exo_frz (Option.some.inj e)) (n2 _ _ e)]; exact e
        · rw [fin b (fun z => by rw [z, ea1] at e; have z' := Option.some.inj e; unfold exo at z'; cases z') (n2 _ _ e)]; exact e
      have kA : Keep H (upd H (hp.objs.size + 1) (exo (hp.objs.size + 1) C none)) := .new hn
      have kB := (kA.trans st1.k).trans ke
      refine ⟨.inr ⟨dx, _, rfl, upd_same, .cons (r2.keep kB) (.cons (r1.keep kB) .nil)⟩, fun b o e => ?_, kB, fun b e n => ⟨e, ?_⟩⟩
      · have n1 : b ≠ hp.objs.size + 1 := fun z => by rw [z, rh.free hn] at e; cases e
        have n2 : b ≠ dx := fun z => by
          obtain ⟨u, q⟩ := (rh1 b o e).some
          rw [z, hdx] at q
          cases q
        exact (rh1 b o e).keep (fin b n1 n2) ke
      · have n1 : b ≠ hp.objs.size + 1 := fun z => n (by rw [z]; exact hn)
        have z := (st1.fr b e (by rw [upd_ne n1]; exact n)).2
        rw [upd_ne n1] at z
        have n2 : b ≠ dx := fun w => n (by rw [← z, w]; exact hdx)
        rw [fin b n1 n2, z]
  have hb' := hb ⟨(hp.push (PySem.W.kdv_tup us)).push (PySem.HandSPX.excO C hp.objs.size), g, dr, tk, os⟩ (Value.ref (hp.objs.size + 1) :: us) I2.kIn (by rw [List.append_nil, ← rv2.length]; rfl)
  rw [List.append_nil] at hb'
  refine wpAny_call (PySem.HandSPX.call_own PySem.F.excBase_ValueError (fun Y => PySem.HandSPX.refsVE_contains Y bm hbm) (I.kIn _ _ hC) (PySem.W.looks_findIn I.kIn iC) (fun self => PySem.W.bind_fn I.kIn self tI) hus
    (codeAny_mono (F.run _ X.stack _ _ ⟨Value.ref (hp.objs.size + 1) :: us, []⟩ (Value.ref (hp.objs.size + 1) :: us) _ _ (fun _ _ _ => False) (hr.make C us []) hg (I2.env0.make C us []) hb' rv2 sp1) fun r s' hq' => ?_))
  cases r with
  | error er =>
    obtain ⟨_, _, _, _, _, _, _, _, _, _, _, _, z⟩ := hq'
    exact z.elim
  | ok fl =>
    cases fl with
    | ret u =>
      obtain ⟨v, H2, os2, bare2, un2, hok2, rv3, ev, d, fs, ea, ed, hd1, gs, q1, q2, q3, q4⟩ := hq'
      subst ev
      obtain ⟨h2, g2, d2, t2, os'⟩ := s'
      exact ⟨rv3, mk_end (raises_own T.exC T.tyC) I hsz kk un2 hok2 os2 bare2 ea ed hd1 ⟨rfl, gs, q1, q2, q3, q4⟩⟩
    | next => exact False.elim hq'
    | brk => exact False.elim hq'
    | cont => exact False.elim hq'
end
end TL


set_option Elab.async false
set_option linter.all false
set_option maxRecDepth 100000
/-! TL8: the law's own call, from its promise over trees. -/
namespace TL
open PySem PySem.Spec PyProof.Rows L2
theorem rts_ints {K : PySem.W.Frag} {H : Hp} : ∀ ns : List Int, RTs K H (ns.map TV.int) (ns.map V.int)
  | [] => .nil
  | i :: r => .cons (.int i) (rts_ints r)
/-- the law's promise, lowered: told the script, it answers True and lets nothing out -/
theorem low_law {K : PySem.W.Frag} {mg : Str → Option Value} {H : Hp} {a : Addr} {ns : List Int} {sp : TSp} (r : SqR K H a (ns.map V.int)) (h : sp [.rol (ns.map TV.int)] (fun _ => none) (fun _ _ => False) fun v _ => v = .bl true) :
    lowSp K mg 1 sp [.ref a] H (fun v _ => v = .bl true) fun _ _ _ => False :=
  ⟨[.rol (ns.map TV.int)], fun _ => none, _, _, rfl, .cons (.rol r (rts_ints ns)) .nil, fun _ _ z => (nomatch z), h, fun x T v H' q rt _ _ => by
    subst q
    cases rt
    rfl, fun _ _ _ _ _ z => z.elim⟩
section
variable {P : Program} {w : World} {K : PySem.W.Frag} {mg mb : Str → Option Value} {k : Nat} {fa a : Addr} {fd : FuncData} {x : Str} {sp : TSp} {s1 : Shared} {vs : List Value} {ns : List Int}
/-- from a heap in which the script alone may be known -/
theorem law_core (kin : K.In s1.heap) (g1 : s1.heap.Ns mainGlobals mg) (g2 : s1.heap.Ns builtinsNs mb) (g3 : ∀ y : Str, y ≠ "__name__" → mb y = bootBuiltins y) (g4 : s1.heap.NoLimit) (g5 : s1.gens = #[])
    (oa : s1.heap.get? a = some { cls := .type "list", data := .seq vs.toArray }) (room : Room k callerA)
    (F : ∀ base : Heap, K.In base → base.Ns mainGlobals mg → FnG P w K mg base k fa fd [x] (lowSp K mg 1 sp)) (bnd : ∀ (s : Shared) (u : Value), BindsTo s fd ⟨[u], []⟩ [(x, u)])
    (h : sp [.rol (ns.map TV.int)] (fun _ => none) (fun _ _ => False) fun v _ => v = .bl true)
    (H : Hp) (hO : Only H) (r : SqR K H a (ns.map V.int)) (hok : HOk P w H s1.heap) (one : ∀ b, H b ≠ none → b = a) (not : H a ≠ none → K.lookup a = none) :
    codeAny (model P w) callerA (.call (.ref fa) ⟨[.ref a], []⟩) (fun res s' => res = .ok (.ret (.bool true)) ∧ OldK s1.heap s'.heap ∧ s'.os = s1.os ∧ AllBare s'.gens) s1 := by
  have free : ∀ {b : Addr} {o : Obj}, s1.heap.get? b = some o → (∀ (its : Array Value) (n : Nat), o.data ≠ .seq its n) → H b = none := by
    intro b o e nd
    cases q : H b with
    | none => rfl
    | some u =>
      obtain rfl : b = a := one b (by rw [q]; exact fun z => nomatch z)
      rw [oa] at e
      cases e
      exact absurd rfl (nd _ _)
  have low : ∀ {b : Addr} {m : Str → Option Value}, s1.heap.Ns b m → (hidT s1.heap H).Ns b m := by
    rintro b m ⟨o, es, ep, e, d, z⟩
    exact ⟨o, es, ep, hidT_get e (free e fun _ _ q => by rw [d] at q; cases q), d, z⟩
  have kin' : K.In (hidT s1.heap H) := by
    intro b o e
    refine hidT_get (kin b o e) ?_
    cases q : H b with
    | none => rfl
    | some u =>
      have nn : H b ≠ none := by rw [q]; exact fun z => nomatch z
      obtain rfl : b = a := one b nn
      rw [not nn] at e
      cases e
  have md : Mod K mg (hidT s1.heap H) := ⟨kin', low g1, ⟨mb, low g2, g3⟩, g4.elim fun m ⟨z1, z2⟩ => ⟨m, low z1, z2⟩⟩
  have env : Env0 P w K mg (hidT s1.heap H) callerA [] s1 H :=
    { frames := rfl, mod := md, bs := fun b o e => of_hidT e, bsz := Nat.le_of_eq (hidT_size _ _), funs := trivial, frf := fun b z => absurd (show b ∈ ([] : List Addr) from z) (by simp), hok := hok, bare := .of_eq g5 }
  have run := (F _ kin' (low g1)).run callerA [] s1 H ⟨[.ref a], []⟩ [.ref a] [.ref a] _ _ room rfl env (bnd s1 (.ref a)) (.cons rfl .nil) (low_law r h)
  refine codeAny_mono run fun res s' z => ?_
  match res, z with
  | .error e, ⟨_, _, _, _, _, _, _, _, _, _, _, _, z⟩ => exact z.elim
  | .ok (.ret u), ⟨v, H', os, bare, un, hok', rv, q⟩ =>
    replace q : v = .bl true := q
    subst q
    obtain rfl : u = Value.bool true := rv
    refine ⟨rfl, OldK.of_keep fun b o e => ?_, os, bare⟩
    cases q : H b with
    | none => exact un.keep b o e q (fun z => absurd (show b ∈ ([] : List Addr) from z) (by simp)) (by simp)
    | some u =>
      obtain z | ⟨ob, xs, z⟩ := hO b
      · rw [q] at z
        cases z
      · obtain ⟨e1, _⟩ := hok b _ z
        obtain ⟨e2, _⟩ := hok' b _ (un.frzs b ob _ z)
        rw [e] at e1
        cases e1
        exact e2
  | .ok .next, z => exact z.elim
  | .ok .brk, z => exact z.elim
  | .ok .cont, z => exact z.elim
theorem law_callG (kin : K.In s1.heap) (g1 : s1.heap.Ns mainGlobals mg) (g2 : s1.heap.Ns builtinsNs mb) (g3 : ∀ y : Str, y ≠ "__name__" → mb y = bootBuiltins y) (g4 : s1.heap.NoLimit) (g5 : s1.gens = #[])
    (oa : s1.heap.get? a = some { cls := .type "list", data := .seq vs.toArray }) (isI : IntsAre vs ns) (len : ns.length ≤ sizeLine) (room : Room k callerA)
    (F : ∀ base : Heap, K.In base → base.Ns mainGlobals mg → FnG P w K mg base k fa fd [x] (lowSp K mg 1 sp)) (bnd : ∀ (s : Shared) (u : Value), BindsTo s fd ⟨[u], []⟩ [(x, u)])
    (h : sp [.rol (ns.map TV.int)] (fun _ => none) (fun _ _ => False) fun v _ => v = .bl true) :
    codeAny (model P w) callerA (.call (.ref fa) ⟨[.ref a], []⟩) (fun res s' => res = .ok (.ret (.bool true)) ∧ OldK s1.heap s'.heap ∧ s'.os = s1.os ∧ AllBare s'.gens) s1 := by
  have vals := vals_ints isI
  have lv := isI.length
  cases q : K.lookup a with
  | some o =>
    have e := kin a o q
    rw [oa] at e
    cases e
    exact law_core kin g1 g2 g3 g4 g5 oa room F bnd h (fun _ => none) (fun _ => .inl rfl) (.inr ⟨vs.toArray, _, q, by rw [List.size_toArray, lv]; exact len, by simpa using vals⟩) (fun b u z => by
      have z' : (none : Option HO) = some u := z
      cases z') (fun b z => absurd rfl z) fun z => absurd rfl z
  | none =>
    refine law_core kin g1 g2 g3 g4 g5 oa room F bnd h (fun b => if b = a then some (.frz { cls := .type "list", data := .seq vs.toArray } (.lst (ns.map V.int))) else none) (fun b => ?_) (.inl ⟨_, if_pos rfl⟩) (fun b u z => ?_) (fun b z => ?_) fun _ => q
    · by_cases e : b = a
      · exact .inr ⟨_, _, if_pos e⟩
      · exact .inl (if_neg e)
    · by_cases e : b = a
      · subst e
        have z' := (if_pos rfl).symm.trans z
        cases z'
        exact ⟨oa, by rw [List.length_map]; exact len, vs, _, vals, oa⟩
      · have z' := (if_neg e).symm.trans z
        cases z'
    · by_cases e : b = a
      · exact e
      · exact absurd (if_neg e) z
end
/-- what is left of the law's row, from its promise over trees -/
theorem walkG_of {l : PySem.W.OpenLaw} {n k : Nat} {q : Program} {loose : List Str} {XP : (Str → Option Value) → Heap → Prop} {YP : World → Heap → Prop} {d : DefRec} {K : Params → PySem.W.Frag} {sp : TSp} {x : Str}
    (most : l.most = some n) (lt : n ≤ sizeLine) (nodef : d.params.defaults = []) (room : Room k callerA) (hY : ∀ (w : World) (h : Heap), YP w h → (K w.params).In h)
    (F : ∀ (w : World) (mg : Str → Option Value) (fa : Addr) (h : Heap), (K w.params).In h → h.Ns mainGlobals mg → mg d.name = some (.ref fa) →
      ∃ fd : FuncData, (∀ (s : Shared) (u : Value), BindsTo s fd ⟨[u], []⟩ [(x, u)]) ∧ ∀ base : Heap, (K w.params).In base → base.Ns mainGlobals mg → FnG l.prog w (K w.params) mg base k fa fd [x] (lowSp (K w.params) mg 1 sp))
    (h : ∀ ns : List Int, ns.length ≤ n → sp [.rol (ns.map TV.int)] (fun _ => none) (fun _ _ => False) fun v _ => v = .bl true) :
    PySem.W.WalkO q loose XP YP l.row.toRowW d [] (fun f vs => PySem.call f vs) := by
  refine Att.attach_call most nodef ?_
  intro w s0 s1 mg mb fa o pm cd doc a vs ns G Y ho hd hcd hmg hobj isI len hg
  have kin := hY w _ Y
  obtain ⟨fd, bnd, F1⟩ := F w mg fa _ kin G.T.g hmg
  exact law_callG kin G.T.g G.T.b G.T.builtins G.T.nolimit hg hobj isI (Nat.le_trans len lt) room F1 bnd (h ns len)
end TL


set_option Elab.async false
set_option linter.all false
set_option maxRecDepth 100000
/-! TL9: walking a text by lemmas, one node each. -/
namespace TL
open PySem PySem.Spec L2
/-- a family of readings, each a step of the one before -/
structure Steps (w : Nat → WP) : Prop where
  s : ∀ n, w (n + 1) = ⟨stepE (w n), stepT (w n), stepI (w n), stepG (w n), stepS (w n)⟩
theorem steps_wp : Steps wp := ⟨fun _ => rfl⟩
/-- a local name, a global one -/
def LocN (S : SC) (x : Str) (i : Nat) : Prop := idx S.N x = some i ∧ (okName x && visB S.sc x) = true ∧ locB S x = true
def VisN (S : SC) (x : Str) (i : Nat) : Prop := idx S.N x = some i ∧ (okName x && visB S.sc x) = true
theorem LocN.v {S : SC} {x : Str} {i : Nat} (h : LocN S x i) : VisN S x i := ⟨h.1, h.2.1⟩
def GlbN (S : SC) (x : Str) : Prop := idx S.N x = none ∧ okName x = true ∧ glB S.sc x = true ∧ S.calm = true
def dctFin (r : Addr) (ps : List (TV × TV)) (H2 : TH) (Q : TQ) : Prop := H2 r = some (.dct []) ∧ Need (keysT ps) fun l => l.length ≤ 15 ∧ Q (.ref r) (tupd H2 r (.dct (mergeT [] l)))
/-- no isinstance -/
def noIsi (f : Str) (es : List Expr) : Bool := (isiTup f es).isNone && (isiArgs f es).isNone
theorem noIsi_of {f : Str} {es : List Expr} (h : noIsi f es = true) : isiTup f es = none ∧ isiArgs f es = none := by
  simp only [noIsi, Bool.and_eq_true, Option.isNone_iff_eq_none] at h
  exact h
def isiQ (m : String) (x : TV) (H : TH) (Q : TQ) : Prop := Need (tyOf H x) fun t => t.1 = true ∧ Need (strNm t.2) fun n => Q (.bl (strIsa n m)) H
section
variable {w : Nat → WP} {n : Nat} {S : SC} {G : GE} {σ : TSt} {H : TH} {E : TX} {Q : TQ} {D : TEnds} {a b c e : Expr} {es : List Expr} {k : Int} {p q pos : Pos} {x f : Str} {i : Nat}
theorem isE {ex : Expr} (h : (w (n + 1)).e S G ex σ H E Q) : (w (n + 1)).e S G ex σ H E Q := h
theorem isT {ex : Expr} {R : Bool → TH → Prop} (h : (w (n + 1)).t S G ex σ H E R) : (w (n + 1)).t S G ex σ H E R := h
theorem isS {st : Stmt} (h : (w (n + 1)).s S G st D σ H) : (w (n + 1)).s S G st D σ H := h
theorem isG {tg : Expr} {v : TV} {T : TSt → TH → Prop} (h : (w (n + 1)).g S G tg v σ H E T) : (w (n + 1)).g S G tg v σ H E T := h
theorem isI {tg it : Expr} {U : TIt → TH → Prop} (h : (w (n + 1)).i S G tg it σ H E U) : (w (n + 1)).i S G tg it σ H E U := h
/-! ### expressions -/
theorem e_none (hw : Steps w) {k} (h : Q .non H) : (w (n + 1)).e S G (.Constant .none k p) σ H E Q := by rw [hw.s]; exact h
theorem e_bool (hw : Steps w) {k} {t : Bool} (h : Q (.bl t) H) : (w (n + 1)).e S G (.Constant (.bool t) k p) σ H E Q := by rw [hw.s]; exact h
theorem e_int (hw : Steps w) {k} {t : Int} (h : Q (.int t) H) : (w (n + 1)).e S G (.Constant (.int t) k p) σ H E Q := by rw [hw.s]; exact h
theorem e_str (hw : Steps w) {k} {t : Str} (h : Q (.str t) H) : (w (n + 1)).e S G (.Constant (.str t) k p) σ H E Q := by rw [hw.s]; exact h
theorem e_loc (hw : Steps w) (hl : VisN S x i) {v : TV} (hv : σ[i]? = some (some v)) (h : Q v H) : (w (n + 1)).e S G (.Name x p) σ H E Q := by
  rw [hw.s]
  show nameW S G x σ H E Q
  unfold nameW
  rw [hl.1]
  exact ⟨hl.2, v, hv, h⟩
theorem e_con (hw : Steps w) (hl : GlbN S x) {v : TV} (hv : G.con x = some v) (h : Q v H) : (w (n + 1)).e S G (.Name x p) σ H E Q := by
  rw [hw.s]
  show nameW S G x σ H E Q
  unfold nameW
  rw [hl.1]
  exact ⟨by rw [hl.2.1, hl.2.2.1]; rfl, v, hv, h⟩
theorem e_bin (hw : Steps w) {op} (h : (w n).e S G a σ H E fun x H1 => (w n).e S G b σ H1 E fun y H2 => bOp op x y H2 Q) : (w (n + 1)).e S G (.BinOp a op b p) σ H E Q := by rw [hw.s]; exact h
theorem e_una (hw : Steps w) {op} (h : (w n).e S G a σ H E fun x H1 => uOp op x H1 Q) : (w (n + 1)).e S G (.UnaryOp op a p) σ H E Q := by rw [hw.s]; exact h
theorem e_and (hw : Steps w) (h : andW ((w n).e S G) es σ H E Q) : (w (n + 1)).e S G (.BoolOp .And es p) σ H E Q := by rw [hw.s]; exact h
theorem e_or (hw : Steps w) (h : orW ((w n).e S G) es σ H E Q) : (w (n + 1)).e S G (.BoolOp .Or es p) σ H E Q := by rw [hw.s]; exact h
theorem e_and1 {F : Expr → TEx} (h : F a σ H E Q) : andW F [a] σ H E Q := h
theorem e_and2 {F : Expr → TEx} (h : F a σ H E fun x H1 => Need (truOf H1 x) fun k => if k = true then andW F (b :: es) σ H1 E Q else Q x H1) : andW F (a :: b :: es) σ H E Q := h
theorem e_or1 {F : Expr → TEx} (h : F a σ H E Q) : orW F [a] σ H E Q := h
theorem e_or2 {F : Expr → TEx} (h : F a σ H E fun x H1 => Need (truOf H1 x) fun k => if k = true then Q x H1 else orW F (b :: es) σ H1 E Q) : orW F (a :: b :: es) σ H E Q := h
theorem e_ife (hw : Steps w) (h : (w n).t S G c σ H E fun k H1 => if k = true then (w n).e S G a σ H1 E Q else (w n).e S G b σ H1 E Q) : (w (n + 1)).e S G (.IfExp c a b p) σ H E Q := by rw [hw.s]; exact h
theorem e_cmp (hw : Steps w) {op} (h : (w n).e S G a σ H E fun x H1 => (w n).e S G b σ H1 E fun y H2 => cOp op x y H2 Q) (hm : behindInMarks op b = false := by decide +kernel) : (w (n + 1)).e S G (.Compare a [op] [b] p) σ H E Q := by rw [hw.s]; exact ⟨hm, h⟩
theorem e_cmp2 (hw : Steps w) {op op'} (h : (w n).e S G a σ H E fun x H1 => (w n).e S G b σ H1 E fun y H2 => cOp op x y H2 fun z H3 => ∃ k, z = .bl k ∧ (if k = true then (w n).e S G c σ H3 E fun u H4 => cOp op' y u H4 Q else Q (.bl false) H3)) (hm : lastMarks [op, op'] [b, c] = false := by decide +kernel) :
    (w (n + 1)).e S G (.Compare a [op, op'] [b, c] p) σ H E Q := by rw [hw.s]; exact ⟨hm, h⟩
theorem e_isi (hw : Steps w) {cn : Str} {m : String} (hl : GlbN S "isinstance") (hc : GlbN S cn) (hm : strNm cn = some m) (hn : m ≠ "NoneType") (hs : isStar a = false)
    (h : (w n).e S G a σ H E fun x H1 => isiQ m x H1 Q) : (w (n + 1)).e S G (.Call (.Name "isinstance" p) [a, .Name cn q] [] pos) σ H E Q := by
  rw [hw.s]
  refine ⟨by rw [hl.2.1, hl.2.2.1, hl.1]; rfl, hs, ?_⟩
  rw [hm]
  exact ⟨hl.2.2.2, by rw [hc.2.1, hc.2.2.1, hc.1]; rfl, m, hm, hn, h⟩
theorem e_iso (hw : Steps w) {cn : Str} (hl : GlbN S "isinstance") (hm : strNm cn = none) (hc : clsOk S G cn = true) (hs : isStar a = false) (h : (w n).e S G a σ H E fun x H1 => Need (isoAny G H1 x [cn]) fun b => Q (.bl b) H1) :
    (w (n + 1)).e S G (.Call (.Name "isinstance" p) [a, .Name cn q] [] pos) σ H E Q := by
  rw [hw.s]
  refine ⟨by rw [hl.2.1, hl.2.2.1, hl.1]; rfl, hs, ?_⟩
  rw [hm]
  exact ⟨by rw [List.all_cons, hc]; rfl, h⟩
theorem e_isoT (hw : Steps w) {k} {cs : List Str} (hl : GlbN S "isinstance") (hcs : clsNames es = some cs) (hn : cs ≠ [] ∧ cs.length ≤ 100) (hc : cs.all (clsOk S G) = true) (hs : isStar a = false) (h : (w n).e S G a σ H E fun x H1 => Need (isoAny G H1 x cs) fun b => Q (.bl b) H1) :
    (w (n + 1)).e S G (.Call (.Name "isinstance" p) [a, .Tuple es k q] [] pos) σ H E Q := by
  have hi : isiTup "isinstance" [a, .Tuple es k q] = some (a, cs) := by
    unfold isiTup
    rw [if_pos rfl]
    simp only [hcs]
    rfl
  rw [hw.s]
  show stepE (w n) S G (.Call (.Name "isinstance" p) [a, .Tuple es k q] [] pos) σ H E Q
  unfold stepE
  simp only [hi]
  exact ⟨by rw [hl.2.1, hl.2.2.1, hl.1]; rfl, hs, hn, hc, h⟩
theorem e_attr (hw : Steps w) {m : Str} (h : (w n).e S G a σ H E fun x H1 => attrOp G m x H1 Q) (h0 : notCall0 a = true := by decide +kernel) : (w (n + 1)).e S G (.Attribute a m p) σ H E Q := by rw [hw.s]; exact ⟨h0, h⟩
theorem e_bf (hw : Steps w) {bf : BF} (hl : GlbN S f) (hb : bfOf f = some bf) (hi : noIsi f es = true) (hs : noStars es = true) (h : argsW ((w n).e S G) es σ H E fun xs H1 => bfDo bf xs H1 Q) : (w (n + 1)).e S G (.Call (.Name f p) es [] pos) σ H E Q := by
  rw [hw.s]
  show stepE (w n) S G (.Call (.Name f p) es [] pos) σ H E Q
  unfold stepE
  simp only [noIsi_of hi]
  refine ⟨hs, by rw [hl.2.1, hl.2.2.1, hl.1, hl.2.2.2]; rfl, ?_⟩
  rw [hb]
  exact h
theorem e_call (hw : Steps w) {sp : TSp} (hl : GlbN S f) (hb : bfOf f = none) (hi : noIsi f es = true) (hf : G.fn f = some sp) (hs : noStars es = true) (h : argsW ((w n).e S G) es σ H E fun xs H1 => sp xs H1 E Q) : (w (n + 1)).e S G (.Call (.Name f p) es [] pos) σ H E Q := by
  rw [hw.s]
  show stepE (w n) S G (.Call (.Name f p) es [] pos) σ H E Q
  unfold stepE
  simp only [noIsi_of hi]
  refine ⟨hs, by rw [hl.2.1, hl.2.2.1, hl.1, hl.2.2.2]; rfl, ?_⟩
  rw [hb]
  simp only [hf]
  exact h
theorem e_mk (hw : Steps w) {ci : CI} (hl : GlbN S f) (hb : bfOf f = none) (hi : noIsi f es = true) (hf : G.fn f = none) (hc : G.cls f = some ci) (ht : S.top = true) (hs : noStars es = true) (h : argsW ((w n).e S G) es σ H E fun xs H1 => xs ≠ [] ∧ ci.xk xs H1 fun fs => ∀ p, H1 p = none → Q (.ref p) (tupd H1 p (.exc f fs))) :
    (w (n + 1)).e S G (.Call (.Name f p) es [] pos) σ H E Q := by
  rw [hw.s]
  show stepE (w n) S G (.Call (.Name f p) es [] pos) σ H E Q
  unfold stepE
  simp only [noIsi_of hi]
  refine ⟨hs, by rw [hl.2.1, hl.2.2.1, hl.1, hl.2.2.2]; rfl, ?_⟩
  rw [hb]
  simp only [hf]
  exact ⟨ht, ci, hc, h⟩
theorem e_meth (hw : Steps w) {m : Str} {bm : BM} (hb : bmOf m es.length = some bm) (h : (w n).e S G a σ H E fun x H1 => isTy bm.ty H1 x ∧ argsW ((w n).e S G) es σ H1 E fun xs H2 => bm.m x xs H2 Q) (hl : (p.endLine == q.line) = true := by decide +kernel) (hn : es.length < 30 := by decide +kernel)
    (hs : noStars es = true := by decide +kernel) (h0 : notCall0 a = true := by decide +kernel) : (w (n + 1)).e S G (.Call (.Attribute a m p) es [] q) σ H E Q := by
  rw [hw.s]
  show stepE (w n) S G (.Call (.Attribute a m p) es [] q) σ H E Q
  unfold stepE
  simp only [hb]
  exact ⟨hl, hn, hs, h0, h⟩
theorem e_sub (hw : Steps w) (h : (w n).e S G a σ H E fun x H1 => (w n).e S G b σ H1 E fun y H2 => ixOp x y H2 Q) (hs : isSimpleIx b = true := by decide +kernel) : (w (n + 1)).e S G (.Subscript a b p) σ H E Q := by
  rw [hw.s]
  show stepE (w n) S G (.Subscript a b p) σ H E Q
  cases b <;> first | exact ⟨hs, h⟩ | (cases hs; done)
theorem e_sl (hw : Steps w) {lo hi : Option Expr} (h : (w n).e S G a σ H E fun x H1 => optW ((w n).e S G) lo σ H1 E fun l H2 => optW ((w n).e S G) hi σ H2 E fun u H3 => slOp x l u H3 Q) : (w (n + 1)).e S G (.Subscript a (.Slice lo hi none q) p) σ H E Q := by rw [hw.s]; exact h
theorem o_none {F : Expr → TEx} {R : Option Int → TH → Prop} (h : R none H) : optW F none σ H E R := h
theorem o_some {F : Expr → TEx} {R : Option Int → TH → Prop} (h : F e σ H E fun x H1 => ∃ i, x = .int i ∧ R (some i) H1) : optW F (some e) σ H E R := h
theorem e_tup (hw : Steps w) {k} (h : argsW ((w n).e S G) es σ H E fun xs H1 => xs.length ≤ sizeLine ∧ Q (.tup xs) H1) (hs : noStars es = true := by decide +kernel) : (w (n + 1)).e S G (.Tuple es k p) σ H E Q := by rw [hw.s]; exact ⟨hs, h⟩
theorem e_lst (hw : Steps w) (h : argsW ((w n).e S G) es σ H E fun xs H1 => xs.length ≤ sizeLine ∧ ∀ a, H1 a = none → Q (.ref a) (tupd H1 a (.lst xs))) (hs : noStars es = true := by decide +kernel) : (w (n + 1)).e S G (.List es p) σ H E Q := by rw [hw.s]; exact ⟨hs, h⟩
theorem e_dct (hw : Steps w) {ks : List (Option Expr)} (h : ∀ r, H r = none → pairsW ((w n).e S G) ks es σ (tupd H r (.dct [])) E fun ps H2 => dctFin r ps H2 Q) (hl : ks.length ≤ 15 := by decide +kernel) (hs : okPairs ks es = true := by decide +kernel) :
    (w (n + 1)).e S G (.Dict ks es p) σ H E Q := by rw [hw.s]; exact ⟨hs, hl, h⟩
theorem p_nil {F : Expr → TEx} {R : List (TV × TV) → TH → Prop} (h : R [] H) : pairsW F [] [] σ H E R := h
theorem p_cons {F : Expr → TEx} {ks : List (Option Expr)} {R : List (TV × TV) → TH → Prop} (h : F a σ H E fun x H1 => F b σ H1 E fun y H2 => pairsW F ks es σ H2 E fun ps H3 => R ((x, y) :: ps) H3) : pairsW F (some a :: ks) (b :: es) σ H E R := h
theorem a_nil {F : Expr → TEx} {R : List TV → TH → Prop} (h : R [] H) : argsW F [] σ H E R := h
theorem a_cons {F : Expr → TEx} {R : List TV → TH → Prop} (h : F a σ H E fun x H1 => argsW F es σ H1 E fun xs H2 => R (x :: xs) H2) : argsW F (a :: es) σ H E R := h
theorem e_lc (hw : Steps w) {tg it elt : Expr} {ifs : List Expr} {scope : Scope} (h1 : (S.calm && blkC S.N S.sc scope (ownOf S.N scope) && tgIn S.N ((ownOf S.N scope).map (·.2)) tg) = true) (h2 : stepE.isSet it = false)
    (h : (w n).i S G tg it σ H E fun J H1 => lcGo J.still ((w n).g (S.blk scope) G tg) (testsW ((w n).t (S.blk scope) G) ifs) ((w n).e (S.blk scope) G elt) (wipeT σ ((ownOf S.N scope).map (·.2))) (fun l H2 => ∀ p, H2 p = none → Q (.ref p) (tupd H2 p (.lst l))) [] J.items H1) :
    (w (n + 1)).e S G (.ListComp elt [⟨tg, it, ifs, 0⟩] scope p) σ H E Q := by rw [hw.s]; exact ⟨h1, h2, h⟩
/-! ### tests -/
variable {R : Bool → TH → Prop}
theorem t_not (hw : Steps w) (h : (w n).t S G a σ H E fun k H1 => R (!k) H1) : (w (n + 1)).t S G (.UnaryOp .Not a p) σ H E R := by rw [hw.s]; exact h
theorem t_and (hw : Steps w) (h : andT ((w n).t S G) es σ H E R) : (w (n + 1)).t S G (.BoolOp .And es p) σ H E R := by rw [hw.s]; exact h
theorem t_or (hw : Steps w) (h : orT ((w n).t S G) es σ H E R) : (w (n + 1)).t S G (.BoolOp .Or es p) σ H E R := by rw [hw.s]; exact h
theorem t_and1 {F : Expr → TTx} (h : F a σ H E R) : andT F [a] σ H E R := h
theorem t_and2 {F : Expr → TTx} (h : F a σ H E fun k H1 => if k = true then andT F (b :: es) σ H1 E R else R false H1) : andT F (a :: b :: es) σ H E R := h
theorem t_or1 {F : Expr → TTx} (h : F a σ H E R) : orT F [a] σ H E R := h
theorem t_or2 {F : Expr → TTx} (h : F a σ H E fun k H1 => if k = true then R true H1 else orT F (b :: es) σ H1 E R) : orT F (a :: b :: es) σ H E R := h
theorem t_cmp (hw : Steps w) {op} (h : (w n).e S G a σ H E fun x H1 => (w n).e S G b σ H1 E fun y H2 => cOp op x y H2 fun x H1 => ∃ k, x = .bl k ∧ R k H1) (hm : behindInMarks op b = false := by decide +kernel) : (w (n + 1)).t S G (.Compare a [op] [b] p) σ H E R := by rw [hw.s]; exact ⟨hm, h⟩
theorem t_cmp2 (hw : Steps w) {op op'} (h : (w n).e S G a σ H E fun x H1 => (w n).e S G b σ H1 E fun y H2 => cOp op x y H2 fun z H3 => ∃ k, z = .bl k ∧ (if k = true then (w n).e S G c σ H3 E fun u H4 => cOp op' y u H4 fun x H1 => ∃ k, x = .bl k ∧ R k H1 else ∃ k, TV.bl false = .bl k ∧ R k H3)) (hm : lastMarks [op, op'] [b, c] = false := by decide +kernel) :
    (w (n + 1)).t S G (.Compare a [op, op'] [b, c] p) σ H E R := by rw [hw.s]; exact ⟨hm, h⟩
theorem t_name (hw : Steps w) (h : (w n).e S G (.Name x p) σ H E fun x H1 => Need (truOf H1 x) fun b => R b H1) : (w (n + 1)).t S G (.Name x p) σ H E R := by rw [hw.s]; exact h
theorem t_call (hw : Steps w) {kw} (h : (w n).e S G (.Call a es kw p) σ H E fun x H1 => Need (truOf H1 x) fun b => R b H1) : (w (n + 1)).t S G (.Call a es kw p) σ H E R := by rw [hw.s]; exact h
theorem t_sub (hw : Steps w) (h : (w n).e S G (.Subscript a b p) σ H E fun x H1 => Need (truOf H1 x) fun b => R b H1) : (w (n + 1)).t S G (.Subscript a b p) σ H E R := by rw [hw.s]; exact h
theorem k_bl {t : Bool} {T : Bool → Prop} (h : T t) : ∃ k, TV.bl t = .bl k ∧ T k := ⟨t, rfl, h⟩
theorem k_int {t : Int} {T : Int → Prop} (h : T t) : ∃ k, TV.int t = .int k ∧ T k := ⟨t, rfl, h⟩
theorem nd_tru {t : Bool} {T : Bool → Prop} (h : T t) : Need (truOf H (.bl t)) T := ⟨t, rfl, h⟩
theorem nd_some {α : Type} {a : α} {o : Option α} {T : α → Prop} (e : o = some a) (h : T a) : Need o T := ⟨a, e, h⟩
theorem if_t {A B : Prop} (h : A) : if true = true then A else B := by rw [if_pos rfl]; exact h
theorem if_f {A B : Prop} (h : B) : if false = true then A else B := by rw [if_neg Bool.false_ne_true]; exact h
theorem if_c {A B : Prop} {k : Bool} (h1 : k = true → A) (h2 : k = false → B) : if k = true then A else B := by
  cases k
  · exact if_f (h2 rfl)
  · exact if_t (h1 rfl)
/-! ### statements -/
variable {st : Stmt} {sts l1 l2 : List Stmt} {v : TV}
theorem b_nil {F : Stmt → TSx} (h : D.nx σ H) : blockW F [] D σ H := h
theorem b_cons {F : Stmt → TSx} (h : F st ⟨fun σ1 H1 => blockW F sts D σ1 H1, D.rt, D.bk, D.ct, D.ex⟩ σ H) : blockW F (st :: sts) D σ H := h
theorem s_ret' (hw : Steps w) (h : (w n).e S G e σ H (fun x H1 => D.ex x σ H1) D.rt) : (w (n + 1)).s S G (.Return (some e) p) D σ H := by rw [hw.s]; exact h
theorem s_pass' (hw : Steps w) (h : D.nx σ H) : (w (n + 1)).s S G (.Pass p) D σ H := by rw [hw.s]; exact h
theorem s_brk' (hw : Steps w) (h : D.bk σ H) : (w (n + 1)).s S G (.Break p) D σ H := by rw [hw.s]; exact h
theorem s_cnt' (hw : Steps w) (h : D.ct σ H) : (w (n + 1)).s S G (.Continue p) D σ H := by rw [hw.s]; exact h
theorem s_exp' (hw : Steps w) (h : (w n).e S G e σ H (fun x H1 => D.ex x σ H1) fun _ H1 => D.nx σ H1) (hc : isComp e = false := by decide +kernel) : (w (n + 1)).s S G (.Expr e p) D σ H := by rw [hw.s]; exact ⟨hc, h⟩
theorem s_if' (hw : Steps w) (h : (w n).t S G c σ H (fun x H1 => D.ex x σ H1) fun k H1 => if k = true then blockW ((w n).s S G) l1 D σ H1 else blockW ((w n).s S G) l2 D σ H1) : (w (n + 1)).s S G (.If c l1 l2 p) D σ H := by rw [hw.s]; exact h
theorem s_while' (hw : Steps w) (h : ∃ m, whileGo ((w n).t S G c) (blockW ((w n).s S G) l1) D m σ H) : (w (n + 1)).s S G (.While c l1 [] p) D σ H := by rw [hw.s]; exact h
theorem s_for' (hw : Steps w) {tg it : Expr} (h : (w n).i S G tg it σ H (fun x H1 => D.ex x σ H1) fun J H1 => forGo J.still ((w n).g S G tg) (blockW ((w n).s S G) l1) D J.items σ H1) (hc : S.calm = true) (hs : stepE.isSet it = false := by decide +kernel) :
    (w (n + 1)).s S G (.For tg it l1 [] p) D σ H := by rw [hw.s]; exact ⟨hc, hs, h⟩
theorem s_asg' (hw : Steps w) (hl : LocN S x i) (h : (w n).e S G e σ H (fun x H1 => D.ex x σ H1) fun v H1 => D.nx (σ.set i (some v)) H1) (hc : isComp e = false := by decide +kernel) : (w (n + 1)).s S G (.Assign [.Name x p] e q) D σ H := by
  rw [hw.s]
  show stepS (w n) S G (.Assign [.Name x p] e q) D σ H
  unfold stepS
  simp only [hl.1]
  exact ⟨by rw [hl.2.2, hc]; rfl, h⟩
theorem s_asgc' (hw : Steps w) (hl : LocN S x i) (hc : swapOk S x p e = true) (h : (w n).e S G e σ H (fun x H1 => D.ex x σ H1) fun v H1 => D.nx (σ.set i (some v)) H1) : (w (n + 1)).s S G (.Assign [.Name x p] e q) D σ H := by
  rw [hw.s]
  show stepS (w n) S G (.Assign [.Name x p] e q) D σ H
  unfold stepS
  simp only [hl.1]
  exact ⟨by rw [hl.2.2, hc, Bool.or_true]; rfl, h⟩
theorem s_par' (hw : Steps w) {ts vs : List Expr} {k} {j : Nat} (hp : parOf S ts e = some (i, j, vs)) (h : argsW ((w n).e S G) vs σ H (fun x H1 => D.ex x σ H1) fun l H1 => ∃ a b, l = [a, b] ∧ D.nx ((σ.set i (some a)).set j (some b)) H1) (hc : S.calm = true) : (w (n + 1)).s S G (.Assign [.Tuple ts k p] e q) D σ H := by
  rw [hw.s]
  show stepS (w n) S G (.Assign [.Tuple ts k p] e q) D σ H
  unfold stepS
  simp only [hp]
  exact ⟨hc, h⟩
theorem s_unp' (hw : Steps w) {ts : List Expr} {k} (hp : parOf S ts e = none) (hn : (noPar S ts e && !isComp e) = true) (h : (w n).e S G e σ H (fun x H1 => D.ex x σ H1) fun v H1 => (w n).g S G (.Tuple ts k p) v σ H1 (fun _ _ => False) D.nx) : (w (n + 1)).s S G (.Assign [.Tuple ts k p] e q) D σ H := by
  rw [hw.s]
  show stepS (w n) S G (.Assign [.Tuple ts k p] e q) D σ H
  unfold stepS
  simp only [hp]
  exact ⟨hn, h⟩
theorem s_put' (hw : Steps w) (h : (w n).e S G e σ H (fun x H1 => D.ex x σ H1) fun v H1 => (w n).g S G (.Subscript a b p) v σ H1 (fun _ _ => False) D.nx) (hc : isComp e = false := by decide +kernel) : (w (n + 1)).s S G (.Assign [.Subscript a b p] e q) D σ H := by
  rw [hw.s]
  exact ⟨by rw [hc]; rfl, h⟩
theorem s_rse (hw : Steps w) {ci : CI} (hl : GlbN S f) (hc : G.cls f = some ci) (ht : S.top = true) (hs : noStars (a :: es) = true) (h : argsW ((w n).e S G) (a :: es) σ H (fun x H1 => D.ex x σ H1) fun xs H1 => xs ≠ [] ∧ ci.xk xs H1 fun fs => D.ex ⟨f, fs⟩ σ H1) :
    (w (n + 1)).s S G (.Raise (some (.Call (.Name f p) (a :: es) [] q)) none pos) D σ H := by
  rw [hw.s]
  exact ⟨by rw [hl.2.1, hl.2.2.1, hl.1, hl.2.2.2, ht, hs]; rfl, ci, hc, h⟩
theorem s_try' (hw : Steps w) {hd : ExceptHandler} {hds : List ExceptHandler} (hc : (S.calm && S.top) = true) (hk : (hd :: hds).all (hdOk S G) = true) (h : blockW ((w n).s S G) l1 ⟨D.nx, D.rt, D.bk, D.ct, catchW (w n) S G D (hd :: hds)⟩ σ H) :
    (w (n + 1)).s S G (.Try l1 (hd :: hds) [] [] p) D σ H := by
  rw [hw.s]
  exact ⟨hc, hk, h⟩
/-- the clause takes it -/
theorem x_catch {w : WP} {c : Str} {nm : Option Str} {su : List Stmt} {hds : List ExceptHandler} {e : TExc} {oi : Option Nat} (hr : ((G.cls e.cls).bind fun ci => ci.rel.lookup c) = some true) (hs : slotOf S nm = some oi)
    (h : ∀ r, H r = none → blockW (w.s S.hot G) su (backT oi D) (setO oi σ r) (tupd H r (.exc e.cls e.fs))) : catchW w S G D (.ExceptHandler (some (.Name c p)) nm su q :: hds) e σ H :=
  ⟨true, hr, if_t ⟨oi, hs, h⟩⟩
theorem x_pass {w : WP} {c : Str} {nm : Option Str} {su : List Stmt} {hds : List ExceptHandler} {e : TExc} (hr : ((G.cls e.cls).bind fun ci => ci.rel.lookup c) = some false)
    (h : catchW w S G D hds e σ H) : catchW w S G D (.ExceptHandler (some (.Name c p)) nm su q :: hds) e σ H :=
  ⟨false, hr, if_f h⟩
theorem x_none {w : WP} {e : TExc} (h : D.ex e σ H) : catchW w S G D [] e σ H := h
/-! ### targets -/
variable {T : TSt → TH → Prop}
theorem g_nm (hw : Steps w) (hl : LocN S x i) (h : T (σ.set i (some v)) H) : (w (n + 1)).g S G (.Name x p) v σ H E T := by
  rw [hw.s]
  show stepG (w n) S G (.Name x p) v σ H E T
  unfold stepG
  simp only [hl.1]
  exact ⟨hl.2.2, h⟩
theorem g_tp (hw : Steps w) {ts : List Expr} {k} {l : List TV} (hn : l.length = ts.length) (h : tgsW ((w n).g S G) ts l σ H E T) (hs : noStars ts = true := by decide +kernel) (hc : S.calm = true) : (w (n + 1)).g S G (.Tuple ts k p) (.tup l) σ H E T := by
  rw [hw.s]
  exact ⟨hs, hc, l, rfl, hn, h⟩
theorem g_sb (hw : Steps w) (h : (w n).e S G a σ H E fun ov H1 => (w n).e S G b σ H1 E fun iv H2 => setOp ov iv v H2 fun H3 => T σ H3) (hs : isSimpleIx b = true := by decide +kernel) (hc : S.calm = true) : (w (n + 1)).g S G (.Subscript a b p) v σ H E T := by
  rw [hw.s]
  exact ⟨hs, hc, h⟩
theorem g_nil {F : Expr → TGx} (h : T σ H) : tgsW F [] [] σ H E T := h
theorem g_cons {F : Expr → TGx} {vs : List TV} (h : F a v σ H E fun σ1 H1 => tgsW F es vs σ1 H1 E T) : tgsW F (a :: es) (v :: vs) σ H E T := h
/-! ### what is walked -/
variable {U : TIt → TH → Prop} {tg : Expr}
theorem i_range1' (hw : Steps w) (hl : GlbN S "range") (h : argsW ((w n).e S G) [a] σ H E fun xs H1 => rng1 xs fun J => U J H1) (hs : noStars [a] = true := by decide +kernel) : (w (n + 1)).i S G tg (.Call (.Name "range" p) [a] [] q) σ H E U := by
  rw [hw.s]
  show stepI (w n) S G tg (.Call (.Name "range" p) [a] [] q) σ H E U
  unfold stepI
  simp only [if_pos]
  exact ⟨by rw [hl.2.2.1, hs]; rfl, h⟩
theorem i_name (hw : Steps w) (h : (w n).e S G (.Name x p) σ H E fun x H1 => Need (seqIt x H1) fun J => U J H1) : (w (n + 1)).i S G tg (.Name x p) σ H E U := by
  rw [hw.s]
  exact ⟨.seq, h⟩
theorem i_tup' (hw : Steps w) {k} (h : (w n).e S G (.Tuple es k p) σ H E fun x H1 => Need (seqIt x H1) fun J => U J H1) : (w (n + 1)).i S G tg (.Tuple es k p) σ H E U := by
  rw [hw.s]
  exact ⟨.seq, h⟩
theorem i_lst' (hw : Steps w) (h : (w n).e S G (.List es p) σ H E fun x H1 => Need (seqIt x H1) fun J => U J H1) : (w (n + 1)).i S G tg (.List es p) σ H E U := by
  rw [hw.s]
  exact ⟨.seq, h⟩
/-! ### operations -/
theorem o_add {i j : Int} (h : Q (.int (i + j)) H) : bOp .Add (.int i) (.int j) H Q := h
theorem o_sub {i j : Int} (h : Q (.int (i - j)) H) : bOp .Sub (.int i) (.int j) H Q := h
theorem o_mul {i j : Int} (c : CMulW i j) (h : Q (.int (i * j)) H) : bOp .Mult (.int i) (.int j) H Q := ⟨c, h⟩
theorem o_mod {i j : Int} (c : 0 < j) (h : Q (.int (i % j)) H) : bOp .Mod (.int i) (.int j) H Q := ⟨c, h⟩
theorem o_div {i j : Int} (c : CDivW i j) (h : Q (.int (i / j)) H) : bOp .FloorDiv (.int i) (.int j) H Q := ⟨c, h⟩
theorem o_pow {i j : Int} (c : CPow i j) (h : Q (.int (i ^ j.toNat)) H) : bOp .Pow (.int i) (.int j) H Q := ⟨c, h⟩
theorem o_tadd {l m : List TV} (c : l.length + m.length ≤ sizeLine) (h : Q (.tup (l ++ m)) H) : bOp .Add (.tup l) (.tup m) H Q := ⟨c, h⟩
theorem o_neg {i : Int} (h : Q (.int (-i)) H) : uOp .USub (.int i) H Q := h
theorem o_nt {t : Bool} (h : Q (.bl (!t)) H) : uOp .Not (.bl t) H Q := ⟨t, rfl, h⟩
theorem c_lt {i j : Int} (h : Q (.bl (decide (i < j))) H) : cOp .Lt (.int i) (.int j) H Q := h
theorem c_le {i j : Int} (h : Q (.bl (decide (i ≤ j))) H) : cOp .LtE (.int i) (.int j) H Q := h
theorem c_leB1 {b : Bool} {j : Int} (h : Q (.bl (decide ((if b then (1 : Int) else 0) ≤ j))) H) : cOp .LtE (.bl b) (.int j) H Q := h
theorem c_leB2 {b : Bool} {j : Int} (h : Q (.bl (decide (j ≤ (if b then (1 : Int) else 0)))) H) : cOp .LtE (.int j) (.bl b) H Q := h
theorem c_gt {i j : Int} (h : Q (.bl (decide (j < i))) H) : cOp .Gt (.int i) (.int j) H Q := h
theorem c_ge {i j : Int} (h : Q (.bl (decide (j ≤ i))) H) : cOp .GtE (.int i) (.int j) H Q := h
theorem c_eqI {i j : Int} (h : Q (.bl (i == j)) H) : cOp .Eq (.int i) (.int j) H Q := ⟨_, rfl, h⟩
theorem c_eqS {x y : Str} (h : Q (.bl (x == y)) H) : cOp .Eq (.str x) (.str y) H Q := ⟨_, rfl, h⟩
theorem c_neS {x y : Str} (h : Q (.bl (!(x == y))) H) : cOp .NotEq (.str x) (.str y) H Q := ⟨_, rfl, h⟩
theorem c_neI {i j : Int} (h : Q (.bl (!(i == j))) H) : cOp .NotEq (.int i) (.int j) H Q := ⟨_, rfl, h⟩
theorem c_neB {i j : Bool} (h : Q (.bl (!(i == j))) H) : cOp .NotEq (.bl i) (.bl j) H Q := ⟨_, rfl, h⟩
theorem c_eqBI {i : Bool} {j : Int} (h : Q (.bl ((if i then (1 : Int) else 0) == j)) H) : cOp .Eq (.bl i) (.int j) H Q := ⟨_, rfl, h⟩
theorem c_isN {x : TV} (h : Q (.bl (isNon x)) H) : cOp .Is x .non H Q := ⟨rfl, h⟩
theorem c_isNN {x : TV} (h : Q (.bl (!isNon x)) H) : cOp .IsNot x .non H Q := ⟨rfl, h⟩
theorem c_eqB {i j : Bool} (h : Q (.bl (i == j)) H) : cOp .Eq (.bl i) (.bl j) H Q := ⟨_, rfl, h⟩
theorem c_eq {x y : TV} {t : Bool} (e : eqTV H 60 x y = some t) (h : Q (.bl t) H) : cOp .Eq x y H Q := ⟨_, e, h⟩
theorem c_ne {x y : TV} {t : Bool} (e : eqTV H 60 x y = some t) (h : Q (.bl (!t)) H) : cOp .NotEq x y H Q := ⟨_, e, h⟩
theorem x_tup {l : List TV} {i : Int} {u : TV} (e : atI l i = some u) (h : Q u H) : ixOp (.tup l) (.int i) H Q := ⟨_, rfl, u, e, h⟩
theorem x_lst {a : Addr} {l : List TV} {i : Int} {u : TV} (hl : H a = some (.lst l)) (e : atI l i = some u) (h : Q u H) : ixOp (.ref a) (.int i) H Q := by
  unfold ixOp dctOf
  simp only [hl]
  exact ⟨(false, l), by simp only [seqOf, hl], u, e, h⟩
theorem x_dct {a : Addr} {l : List (Key × TV)} {k : TV} {κ : Key} {u : TV} (hl : H a = some (.dct l)) (hk : keyOf k = some κ) (e : valT l κ = some u) (h : Q u H) : ixOp (.ref a) k H Q := by
  unfold ixOp dctOf
  simp only [hl]
  exact ⟨κ, hk, u, e, h⟩
theorem o_put {a : Addr} {l : List (Key × TV)} {k : TV} {κ : Key} {T : TH → Prop} (hl : H a = some (.dct l)) (hk : keyOf k = some κ) (hz : l.length < sizeLine) (h : T (tupd H a (.dct (putT l κ v)))) : setOp (.ref a) k v H T := by
  unfold setOp
  simp only [hl]
  exact ⟨κ, hk, hz, h⟩
end
theorem isi_non_int {H : TH} {Q : TQ} (h : Q (.bl false) H) : isiQ "int" .non H Q := ⟨(true, "NoneType"), rfl, rfl, "NoneType", by kernel_rfl, h⟩
theorem isi_non_bool {H : TH} {Q : TQ} (h : Q (.bl false) H) : isiQ "bool" .non H Q := ⟨(true, "NoneType"), rfl, rfl, "NoneType", by kernel_rfl, h⟩
theorem isi_non_str {H : TH} {Q : TQ} (h : Q (.bl false) H) : isiQ "str" .non H Q := ⟨(true, "NoneType"), rfl, rfl, "NoneType", by kernel_rfl, h⟩
theorem isi_non_tuple {H : TH} {Q : TQ} (h : Q (.bl false) H) : isiQ "tuple" .non H Q := ⟨(true, "NoneType"), rfl, rfl, "NoneType", by kernel_rfl, h⟩
theorem isi_non_list {H : TH} {Q : TQ} (h : Q (.bl false) H) : isiQ "list" .non H Q := ⟨(true, "NoneType"), rfl, rfl, "NoneType", by kernel_rfl, h⟩
theorem isi_non_dict {H : TH} {Q : TQ} (h : Q (.bl false) H) : isiQ "dict" .non H Q := ⟨(true, "NoneType"), rfl, rfl, "NoneType", by kernel_rfl, h⟩
theorem isi_bl_int {t : Bool} {H : TH} {Q : TQ} (h : Q (.bl true) H) : isiQ "int" (.bl t) H Q := ⟨(true, "bool"), rfl, rfl, "bool", by kernel_rfl, h⟩
theorem isi_bl_bool {t : Bool} {H : TH} {Q : TQ} (h : Q (.bl true) H) : isiQ "bool" (.bl t) H Q := ⟨(true, "bool"), rfl, rfl, "bool", by kernel_rfl, h⟩
theorem isi_bl_str {t : Bool} {H : TH} {Q : TQ} (h : Q (.bl false) H) : isiQ "str" (.bl t) H Q := ⟨(true, "bool"), rfl, rfl, "bool", by kernel_rfl, h⟩
theorem isi_bl_tuple {t : Bool} {H : TH} {Q : TQ} (h : Q (.bl false) H) : isiQ "tuple" (.bl t) H Q := ⟨(true, "bool"), rfl, rfl, "bool", by kernel_rfl, h⟩
theorem isi_bl_list {t : Bool} {H : TH} {Q : TQ} (h : Q (.bl false) H) : isiQ "list" (.bl t) H Q := ⟨(true, "bool"), rfl, rfl, "bool", by kernel_rfl, h⟩
theorem isi_bl_dict {t : Bool} {H : TH} {Q : TQ} (h : Q (.bl false) H) : isiQ "dict" (.bl t) H Q := ⟨(true, "bool"), rfl, rfl, "bool", by kernel_rfl, h⟩
theorem isi_int_int {t : Int} {H : TH} {Q : TQ} (h : Q (.bl true) H) : isiQ "int" (.int t) H Q := ⟨(true, "int"), rfl, rfl, "int", by kernel_rfl, h⟩
theorem isi_int_bool {t : Int} {H : TH} {Q : TQ} (h : Q (.bl false) H) : isiQ "bool" (.int t) H Q := ⟨(true, "int"), rfl, rfl, "int", by kernel_rfl, h⟩
theorem isi_int_str {t : Int} {H : TH} {Q : TQ} (h : Q (.bl false) H) : isiQ "str" (.int t) H Q := ⟨(true, "int"), rfl, rfl, "int", by kernel_rfl, h⟩
theorem isi_int_tuple {t : Int} {H : TH} {Q : TQ} (h : Q (.bl false) H) : isiQ "tuple" (.int t) H Q := ⟨(true, "int"), rfl, rfl, "int", by kernel_rfl, h⟩
theorem isi_int_list {t : Int} {H : TH} {Q : TQ} (h : Q (.bl false) H) : isiQ "list" (.int t) H Q := ⟨(true, "int"), rfl, rfl, "int", by kernel_rfl, h⟩
theorem isi_int_dict {t : Int} {H : TH} {Q : TQ} (h : Q (.bl false) H) : isiQ "dict" (.int t) H Q := ⟨(true, "int"), rfl, rfl, "int", by kernel_rfl, h⟩
theorem isi_str_int {t : Str} {H : TH} {Q : TQ} (h : Q (.bl false) H) : isiQ "int" (.str t) H Q := ⟨(true, "str"), rfl, rfl, "str", by kernel_rfl, h⟩
theorem isi_str_bool {t : Str} {H : TH} {Q : TQ} (h : Q (.bl false) H) : isiQ "bool" (.str t) H Q := ⟨(true, "str"), rfl, rfl, "str", by kernel_rfl, h⟩
theorem isi_str_str {t : Str} {H : TH} {Q : TQ} (h : Q (.bl true) H) : isiQ "str" (.str t) H Q := ⟨(true, "str"), rfl, rfl, "str", by kernel_rfl, h⟩
theorem isi_str_tuple {t : Str} {H : TH} {Q : TQ} (h : Q (.bl false) H) : isiQ "tuple" (.str t) H Q := ⟨(true, "str"), rfl, rfl, "str", by kernel_rfl, h⟩
theorem isi_str_list {t : Str} {H : TH} {Q : TQ} (h : Q (.bl false) H) : isiQ "list" (.str t) H Q := ⟨(true, "str"), rfl, rfl, "str", by kernel_rfl, h⟩
theorem isi_str_dict {t : Str} {H : TH} {Q : TQ} (h : Q (.bl false) H) : isiQ "dict" (.str t) H Q := ⟨(true, "str"), rfl, rfl, "str", by kernel_rfl, h⟩
theorem isi_tup_int {t : List TV} {H : TH} {Q : TQ} (h : Q (.bl false) H) : isiQ "int" (.tup t) H Q := ⟨(true, "tuple"), rfl, rfl, "tuple", by kernel_rfl, h⟩
theorem isi_tup_bool {t : List TV} {H : TH} {Q : TQ} (h : Q (.bl false) H) : isiQ "bool" (.tup t) H Q := ⟨(true, "tuple"), rfl, rfl, "tuple", by kernel_rfl, h⟩
theorem isi_tup_str {t : List TV} {H : TH} {Q : TQ} (h : Q (.bl false) H) : isiQ "str" (.tup t) H Q := ⟨(true, "tuple"), rfl, rfl, "tuple", by kernel_rfl, h⟩
theorem isi_tup_tuple {t : List TV} {H : TH} {Q : TQ} (h : Q (.bl true) H) : isiQ "tuple" (.tup t) H Q := ⟨(true, "tuple"), rfl, rfl, "tuple", by kernel_rfl, h⟩
theorem isi_tup_list {t : List TV} {H : TH} {Q : TQ} (h : Q (.bl false) H) : isiQ "list" (.tup t) H Q := ⟨(true, "tuple"), rfl, rfl, "tuple", by kernel_rfl, h⟩
theorem isi_tup_dict {t : List TV} {H : TH} {Q : TQ} (h : Q (.bl false) H) : isiQ "dict" (.tup t) H Q := ⟨(true, "tuple"), rfl, rfl, "tuple", by kernel_rfl, h⟩
theorem isi_rol_int {t : List TV} {H : TH} {Q : TQ} (h : Q (.bl false) H) : isiQ "int" (.rol t) H Q := ⟨(true, "list"), rfl, rfl, "list", by kernel_rfl, h⟩
theorem isi_rol_bool {t : List TV} {H : TH} {Q : TQ} (h : Q (.bl false) H) : isiQ "bool" (.rol t) H Q := ⟨(true, "list"), rfl, rfl, "list", by kernel_rfl, h⟩
theorem isi_rol_str {t : List TV} {H : TH} {Q : TQ} (h : Q (.bl false) H) : isiQ "str" (.rol t) H Q := ⟨(true, "list"), rfl, rfl, "list", by kernel_rfl, h⟩
theorem isi_rol_tuple {t : List TV} {H : TH} {Q : TQ} (h : Q (.bl false) H) : isiQ "tuple" (.rol t) H Q := ⟨(true, "list"), rfl, rfl, "list", by kernel_rfl, h⟩
theorem isi_rol_list {t : List TV} {H : TH} {Q : TQ} (h : Q (.bl true) H) : isiQ "list" (.rol t) H Q := ⟨(true, "list"), rfl, rfl, "list", by kernel_rfl, h⟩
theorem isi_rol_dict {t : List TV} {H : TH} {Q : TQ} (h : Q (.bl false) H) : isiQ "dict" (.rol t) H Q := ⟨(true, "list"), rfl, rfl, "list", by kernel_rfl, h⟩
/-- a thing of a built-in type -/
def plainO : TO → Bool
  | .lst _ => true
  | .dct _ => true
  | _ => false
def Kn (H : TH) : TV → Prop
  | .ref a => ∃ o, H a = some o ∧ plainO o = true
  | _ => True
theorem isi_ref {H : TH} {a : Addr} {m : String} (hk : Kn H (.ref a)) (hm : m = "int" ∨ m = "bool" ∨ m = "str" ∨ m = "tuple") {Q : TQ} (h : Q (.bl false) H) : isiQ m (.ref a) H Q := by
  obtain ⟨o, e, ne⟩ := hk
  cases o with
  | ins c fs => cases ne
  | exc c fs => cases ne
  | lst l =>
    refine ⟨(true, "list"), by simp [tyOf, e], rfl, "list", by kernel_rfl, ?_⟩
    rcases hm with rfl | rfl | rfl | rfl <;> exact h
  | dct l =>
    refine ⟨(true, "dict"), by simp [tyOf, e], rfl, "dict", by kernel_rfl, ?_⟩
    rcases hm with rfl | rfl | rfl | rfl <;> exact h
/-! ### isinstance by exception classes -/
def relAny (G : GE) (k : Str) : List Str → Option Bool
  | [] => some false
  | c :: r => match ((G.cls k).bind fun ci => ci.rel.lookup c), relAny G k r with
    | some b, some d => some (b || d)
    | _, _ => none
theorem isoAny_exc {G : GE} {H : TH} {a : Addr} {k : Str} {fs : List (Str × TV)} (e : H a = some (.exc k fs)) : ∀ cs, isoAny G H (.ref a) cs = relAny G k cs
  | [] => rfl
  | c :: r => by
    unfold isoAny relAny
    rw [isoAny_exc e r]
    have : isoOf G H (.ref a) c = (G.cls k).bind fun ci => ci.rel.lookup c := by simp only [isoOf, excOf, e]
    rw [this]
    try rfl
theorem isoAny_base {G : GE} {H : TH} {x : TV} {t : Str} (e1 : excOf H x = none) (e2 : tyOf H x = some (true, t)) : ∀ cs, isoAny G H x cs = some false
  | [] => rfl
  | c :: r => by
    unfold isoAny
    rw [isoAny_base e1 e2 r]
    have : isoOf G H x c = some false := by simp only [isoOf, e1, e2]
    rw [this]
    try rfl
section
variable {G : GE} {H : TH} {cs : List Str} {R : Bool → Prop}
theorem iso_ex {a : Addr} {k : Str} {fs : List (Str × TV)} {b : Bool} (e : H a = some (.exc k fs)) (hr : relAny G k cs = some b) (h : R b) : Need (isoAny G H (.ref a) cs) R := ⟨b, (isoAny_exc e cs).trans hr, h⟩
theorem iso_non (h : R false) : Need (isoAny G H .non cs) R := ⟨false, isoAny_base rfl rfl cs, h⟩
theorem iso_bl {t : Bool} (h : R false) : Need (isoAny G H (.bl t) cs) R := ⟨false, isoAny_base rfl rfl cs, h⟩
theorem iso_int {t : Int} (h : R false) : Need (isoAny G H (.int t) cs) R := ⟨false, isoAny_base rfl rfl cs, h⟩
theorem iso_tup {t : List TV} (h : R false) : Need (isoAny G H (.tup t) cs) R := ⟨false, isoAny_base rfl rfl cs, h⟩
end
theorem LocN.hot {S : SC} {x : Str} {i : Nat} (h : LocN S x i) : LocN S.hot x i := h
theorem VisN.hot {S : SC} {x : Str} {i : Nat} (h : VisN S x i) : VisN S.hot x i := h
theorem k_backr {oi : Option Nat} {D : TEnds} {v : TV} {H : TH} (h : D.rt v H) : (backT oi D).rt v H := by cases oi <;> exact h
theorem k_backn {D : TEnds} {σ : TSt} {H : TH} (h : D.nx σ H) : (backT none D).nx σ H := h
theorem at_exc {G : GE} {n : Str} {a : Addr} {c : Str} {fs : List (Str × TV)} {ci : CI} {v : TV} {H : TH} {Q : TQ} (e : H a = some (.exc c fs)) (hc : G.cls c = some ci) (hf : ci.fld.contains n = true) (hl : fs.lookup n = some v) (h : Q v H) : attrOp G n (.ref a) H Q := by
  unfold attrOp
  simp only [e]
  exact ⟨ci, hc, hf, v, hl, h⟩
theorem if_tc {A B : Prop} {k : Bool} (e : k = true) (h : A) : if k = true then A else B := by rw [if_pos e]; exact h
theorem if_fc {A B : Prop} {k : Bool} (e : k = false) (h : B) : if k = true then A else B := by rw [e]; exact if_f h
end TL


set_option Elab.async false
set_option linter.all false
set_option maxRecDepth 100000
/-! TL10: more of the walk's lemmas; tables of promises. -/
namespace TL
open PySem PySem.Spec L2
def gOf (fs : List (Str × TSp)) (cs : List (Str × TV)) (ks : List (Str × CI)) : GE := ⟨fun x => fs.lookup x, fun x => cs.lookup x, fun x => ks.lookup x⟩
theorem kn_int {H : TH} {i : Int} : Kn H (.int i) := trivial
theorem kn_bl {H : TH} {i : Bool} : Kn H (.bl i) := trivial
theorem kn_str {H : TH} {i : Str} : Kn H (.str i) := trivial
theorem kn_non {H : TH} : Kn H .non := trivial
theorem kn_tup {H : TH} {i : List TV} : Kn H (.tup i) := trivial
theorem kn_rol {H : TH} {i : List TV} : Kn H (.rol i) := trivial
theorem len_go {l : List TV} {R : Prop} (e : l.length ≤ 1000) (h : R) : l.length ≤ sizeLine ∧ R := ⟨Nat.le_trans e (by decide +kernel), h⟩
theorem b_len : bfOf "len" = some .len := by kernel_rfl
theorem b_abs : bfOf "abs" = some .abs := by kernel_rfl
theorem b_max : bfOf "max" = some .max := by kernel_rfl
theorem b_min : bfOf "min" = some .min := by kernel_rfl
theorem b_int : bfOf "int" = some .int := by kernel_rfl
theorem b_str : bfOf "str" = some .str := by kernel_rfl
theorem b_tuple : bfOf "tuple" = some .tuple := by kernel_rfl
theorem b_list : bfOf "list" = some .list := by kernel_rfl
theorem b_all : bfOf "all" = some .all := by kernel_rfl
theorem b_any : bfOf "any" = some .any := by kernel_rfl
theorem b_repr : bfOf "repr" = some .repr := by kernel_rfl
theorem nm_int : strNm "int" = some "int" := by kernel_rfl
theorem nm_bool : strNm "bool" = some "bool" := by kernel_rfl
theorem nm_str : strNm "str" = some "str" := by kernel_rfl
theorem nm_tuple : strNm "tuple" = some "tuple" := by kernel_rfl
theorem nm_list : strNm "list" = some "list" := by kernel_rfl
theorem nm_dict : strNm "dict" = some "dict" := by kernel_rfl
theorem bl_of {Q : TQ} {H : TH} {a b : Bool} (h : Q (.bl a) H) (e : a = b) : Q (.bl b) H := e ▸ h
section
variable {H : TH} {Q : TQ} {a b c d e : TV} {r l : List TV}
/-- one of these words -/
def inS (y : Str) : List Str → Bool
  | [] => false
  | x :: r => (x == y) || inS y r
theorem inTV_strs {y : Str} : ∀ ws : List Str, inTV H (.str y) (ws.map TV.str) = some (inS y ws)
  | [] => rfl
  | x :: r => by
    show (match eqTV H 60 (.str x) (.str y), inTV H (.str y) (r.map TV.str) with | some b, some c => some (b || c) | _, _ => none) = _
    rw [inTV_strs r]
    rfl
theorem c_inS {y : Str} (ws : List Str) (h : Q (.bl (inS y ws)) H) : cOp .In (.str y) (.tup (ws.map TV.str)) H Q := ⟨(true, ws.map TV.str), rfl, _, inTV_strs ws, h⟩
theorem c_niS {y : Str} (ws : List Str) (h : Q (.bl (!inS y ws)) H) : cOp .NotIn (.str y) (.tup (ws.map TV.str)) H Q := ⟨(true, ws.map TV.str), rfl, _, inTV_strs ws, h⟩
theorem c_in2 {y p q : Str} (h : Q (.bl (inS y [p, q])) H) : cOp .In (.str y) (.tup [.str p, .str q]) H Q := c_inS [p, q] h
theorem c_in3 {y p q s : Str} (h : Q (.bl (inS y [p, q, s])) H) : cOp .In (.str y) (.tup [.str p, .str q, .str s]) H Q := c_inS [p, q, s] h
theorem c_in4 {y p q s t : Str} (h : Q (.bl (inS y [p, q, s, t])) H) : cOp .In (.str y) (.tup [.str p, .str q, .str s, .str t]) H Q := c_inS [p, q, s, t] h
theorem c_in5 {y p q s t u : Str} (h : Q (.bl (inS y [p, q, s, t, u])) H) : cOp .In (.str y) (.tup [.str p, .str q, .str s, .str t, .str u]) H Q := c_inS [p, q, s, t, u] h
theorem c_ni2 {y p q : Str} (h : Q (.bl (!inS y [p, q])) H) : cOp .NotIn (.str y) (.tup [.str p, .str q]) H Q := c_niS [p, q] h
theorem c_ni4 {y p q s t : Str} (h : Q (.bl (!inS y [p, q, s, t])) H) : cOp .NotIn (.str y) (.tup [.str p, .str q, .str s, .str t]) H Q := c_niS [p, q, s, t] h
theorem c_ni5 {y p q s t u : Str} (h : Q (.bl (!inS y [p, q, s, t, u])) H) : cOp .NotIn (.str y) (.tup [.str p, .str q, .str s, .str t, .str u]) H Q := c_niS [p, q, s, t, u] h
/-- a tuple, the empty one -/
theorem c_eqT0 (h : Q (.bl l.isEmpty) H) : cOp .Eq (.tup l) (.tup []) H Q := ⟨l.isEmpty, by
  show eqSeq (eqTV H 59) true l true [] = some l.isEmpty
  unfold eqSeq
  cases l <;> rfl, h⟩
/-- a tuple that begins with a word, and one of one word -/
theorem c_eqT1 {x y : Str} (h : Q (.bl ((x == y) && r.isEmpty)) H) : cOp .Eq (.tup (.str x :: r)) (.tup [.str y]) H Q := ⟨(x == y) && r.isEmpty, by
  show eqSeq (eqTV H 59) true (.str x :: r) true [.str y] = _
  unfold eqSeq
  cases r with
  | nil => simp [allKnown, eqTV, eqFlat]
  | cons z r => simp [allKnown, eqTV, eqFlat], h⟩
theorem l_tup (h : Q (.int (l.length : Nat)) H) : bfDo .len [.tup l] H Q := ⟨_, rfl, h⟩
theorem l_rol (h : Q (.int (l.length : Nat)) H) : bfDo .len [.rol l] H Q := ⟨_, rfl, h⟩
theorem l_ref {p : Addr} (e : H p = some (.lst l)) (h : Q (.int (l.length : Nat)) H) : bfDo .len [.ref p] H Q := ⟨l.length, by simp [lenOf, e], h⟩
theorem m_min {i j : Int} (h : Q (.int (if j < i then j else i)) H) : bfDo .min [.int i, .int j] H Q := h
theorem m_max {i j : Int} (h : Q (.int (if j > i then j else i)) H) : bfDo .max [.int i, .int j] H Q := h
theorem m_abs {i : Int} (h : Q (.int (if i < 0 then -i else i)) H) : bfDo .abs [.int i] H Q := h
theorem at_nat {α : Type} {l : List α} {j : Nat} {u : α} (h : l[j]? = some u) : atI l (j : Int) = some u := by
  have hj : j < l.length := (List.getElem?_eq_some_iff.mp h).1
  unfold atI ixN
  rw [if_pos (by omega), if_pos (by omega)]
  simpa using h
theorem x_t0 (h : Q a H) : ixOp (.tup (a :: r)) (.int 0) H Q := x_tup (u := a) (at_nat (j := 0) rfl) h
theorem x_t1 (h : Q b H) : ixOp (.tup (a :: b :: r)) (.int 1) H Q := x_tup (u := b) (at_nat (j := 1) rfl) h
theorem x_t2 (h : Q c H) : ixOp (.tup (a :: b :: c :: r)) (.int 2) H Q := x_tup (u := c) (at_nat (j := 2) rfl) h
/-- x[i] of a list, i in its bounds -/
theorem x_at {p : Addr} {i : Int} (hl : H p = some (.lst l)) (h0 : 0 ≤ i) (h1 : i < l.length) (h : ∀ u, u ∈ l → Q u H) : ixOp (.ref p) (.int i) H Q := by
  obtain ⟨j, rfl⟩ := Int.eq_ofNat_of_zero_le h0
  have hj : j < l.length := by omega
  exact x_lst hl (at_nat (List.getElem?_eq_getElem hj)) (h _ (List.getElem_mem hj))
end
theorem s_par2 {w : Nat → WP} {n : Nat} {S : SC} {G : GE} {σ : TSt} {H : TH} {D : TEnds} {ts : List Expr} {a b e : Expr} {p q : Pos} {k} {i j : Nat} (hw : Steps w) (hp : parOf S ts e = some (i, j, [a, b])) (hc : S.calm = true)
    (h : (w n).e S G a σ H (fun x H1 => D.ex x σ H1) fun u H1 => (w n).e S G b σ H1 (fun x H1 => D.ex x σ H1) fun v H2 => D.nx ((σ.set i (some u)).set j (some v)) H2) : (w (n + 1)).s S G (.Assign [.Tuple ts k p] e q) D σ H := by
  refine s_par' hw hp ?_ hc
  have z : ∀ (x y : TV) (H2 : TH), (∃ u v, [x, y] = [u, v] ∧ D.nx ((σ.set i (some u)).set j (some v)) H2) = D.nx ((σ.set i (some x)).set j (some y)) H2 := fun x y H2 =>
    propext ⟨fun ⟨u, v, q, h⟩ => by cases q; exact h, fun h => ⟨x, y, rfl, h⟩⟩
  show (w n).e S G a σ H _ fun x H1 => (w n).e S G b σ H1 _ fun y H2 => ∃ u v, [x, y] = [u, v] ∧ D.nx ((σ.set i (some u)).set j (some v)) H2
  simp only [z]
  exact h
end TL


set_option Elab.async false
set_option linter.all false
set_option maxRecDepth 100000
/-! TL11: dicts of texts, numbers in bounds, what is kept; repr of flat things. -/
namespace TL
open PySem PySem.Spec L2
theorem g_tp2 {w : Nat → WP} {n : Nat} {S : SC} {G : GE} {σ : TSt} {H : TH} {E : TX} {T : TSt → TH → Prop} {a b : Expr} {u v : TV} {p : Pos} {k} (hw : Steps w) (h : tgsW ((w n).g S G) [a, b] [u, v] σ H E T) (hs : noStars [a, b] = true := by decide +kernel) (hc : S.calm = true) :
    (w (n + 1)).g S G (.Tuple [a, b] k p) (.tup [u, v]) σ H E T := g_tp hw rfl h hs hc
theorem while_up {c : TTx} {b : TSx} {D : TEnds} {σ : Int → TSt} {H : TH} {n x0 B : Int} (hn : 1 ≤ n) (hB : n ≤ B) (hc : ∀ x R, R (decide (x < 0)) H → c (σ x) H (fun e H1 => D.ex e (σ x) H1) R) (hb : ∀ (x : Int) (D' : TEnds), D'.nx (σ (x + n)) H → b D' (σ x) H)
    (fin : ∀ x, 0 ≤ x → x ≤ B → x % n = x0 % n → D.nx (σ x) H) : ∀ (k : Nat) (x : Int), x ≤ B → x % n = x0 % n → -x ≤ k → whileGo c b D (k + 1) (σ x) H := by
  intro k
  induction k with
  | zero =>
    intro x l e h
    refine hc x _ ?_
    have z : decide (x < 0) = false := decide_eq_false (by omega)
    rw [z]
    exact if_f (fin x (by omega) l e)
  | succ k ih =>
    intro x l e h
    refine hc x _ ?_
    by_cases z : x < 0
    · rw [decide_eq_true z]
      refine if_t (hb x _ ?_)
      exact ih (x + n) (by omega) (by rw [Int.add_emod_right]; exact e) (by omega)
    · rw [decide_eq_false z]
      exact if_f (fin x (by omega) l e)
theorem tv_of {Q : TQ} {H : TH} {a b : TV} (h : Q a H) (e : a = b) : Q b H := e ▸ h
/-- all known objects are kept -/
def Fr (H H' : TH) : Prop := ∀ a o, H a = some o → H' a = some o
theorem Fr.refl (H : TH) : Fr H H := fun _ _ h => h
theorem Fr.trans {H H1 H2 : TH} (a : Fr H H1) (b : Fr H1 H2) : Fr H H2 := fun c o h => b c o (a c o h)
theorem Fr.new {H : TH} {p : Addr} {o : TO} (h : H p = none) : Fr H (tupd H p o) := fun a u e => by
  by_cases z : a = p
  · subst z; rw [h] at e; cases e
  · rw [tupd_ne z]; exact e
theorem Fr.new2 {H : TH} {p : Addr} {o u : TO} (h : H p = none) : Fr H (tupd (tupd H p o) p u) := fun a v e => by
  by_cases z : a = p
  · subst z; rw [h] at e; cases e
  · rw [tupd_ne z, tupd_ne z]; exact e
/-- all known objects but one -/
def Fx (d : Addr) (H H' : TH) : Prop := ∀ a o, a ≠ d → H a = some o → H' a = some o
theorem Fx.refl (d : Addr) (H : TH) : Fx d H H := fun _ _ _ h => h
theorem Fx.trans {d : Addr} {H H1 H2 : TH} (a : Fx d H H1) (b : Fx d H1 H2) : Fx d H H2 := fun c o n h => b c o n (a c o n h)
theorem Fr.fx {d : Addr} {H H' : TH} (a : Fr H H') : Fx d H H' := fun c o _ h => a c o h
theorem Fx.put {d : Addr} {H : TH} {o : TO} : Fx d H (tupd H d o) := fun a u n e => by rw [tupd_ne n]; exact e
theorem log_lt {i : Int} (h1 : -1000000000000000000000000000000000000000000000000000000000000 < i) (h2 : i < 1000000000000000000000000000000000000000000000000000000000000) : i.natAbs.log2 < 300 := by
  by_cases z : i.natAbs = 0
  · rw [z]; decide
  · refine (Nat.log2_lt z).mpr (Nat.lt_of_lt_of_le (?_ : i.natAbs < 1000000000000000000000000000000000000000000000000000000000000) (by decide +kernel))
    omega
theorem cmul {i j : Int} (h1 : -1000000000000000000000000000000000000000000000000000000000000 < i) (h2 : i < 1000000000000000000000000000000000000000000000000000000000000) (h3 : -1000000000000000000000000000000000000000000000000000000000000 < j) (h4 : j < 1000000000000000000000000000000000000000000000000000000000000) : CMulW i j := by
  have a := log_lt h1 h2
  have b := log_lt h3 h4
  show i.natAbs.log2 + j.natAbs.log2 < 1000000
  omega
theorem cdiv {i j : Int} (h1 : 0 < j) (h2 : j < 1000000000000000000000000000000000000000000000000000000000000) : CDivW i j := ⟨h1, by
  have := log_lt (i := j) (by omega) h2
  omega⟩
section
variable {H : TH} {Q : TQ} {p : Addr} {k k0 k1 k2 k3 : Str} {a b c e : TV} {r : List (Key × TV)}
theorem val0 : valT ((.inr k, a) :: r) (.inr k) = some a := by
  unfold valT
  rw [List.find?_cons_of_pos (by simp)]
  rfl
theorem val1 (h : k0 ≠ k) : valT ((.inr k0, a) :: r) (.inr k) = valT r (.inr k) := by
  unfold valT
  rw [List.find?_cons_of_neg (by simpa using h)]
theorem x_d0 (hl : H p = some (.dct ((.inr k0, a) :: r))) (h : Q a H) : ixOp (.ref p) (.str k0) H Q := x_dct hl rfl val0 h
theorem x_d1 (hl : H p = some (.dct ((.inr k0, a) :: (.inr k1, b) :: r))) (h : Q b H) (n : k0 ≠ k1 := by decide +kernel) : ixOp (.ref p) (.str k1) H Q := x_dct hl rfl ((val1 n).trans val0) h
theorem x_d2 (hl : H p = some (.dct ((.inr k0, a) :: (.inr k1, b) :: (.inr k2, c) :: r))) (h : Q c H) (n : k0 ≠ k2 := by decide +kernel) (m : k1 ≠ k2 := by decide +kernel) : ixOp (.ref p) (.str k2) H Q := x_dct hl rfl ((val1 n).trans ((val1 m).trans val0)) h
theorem x_d3 (hl : H p = some (.dct ((.inr k0, a) :: (.inr k1, b) :: (.inr k2, c) :: (.inr k3, e) :: r))) (h : Q e H) (n : k0 ≠ k3 := by decide +kernel) (m : k1 ≠ k3 := by decide +kernel) (l : k2 ≠ k3 := by decide +kernel) : ixOp (.ref p) (.str k3) H Q :=
  x_dct hl rfl ((val1 n).trans ((val1 m).trans ((val1 l).trans val0))) h
theorem merge4 (d : ([k0, k1, k2, k3] : List Str).Nodup) : mergeT [] [(.inr k0, a), (.inr k1, b), (.inr k2, c), (.inr k3, e)] = [(.inr k0, a), (.inr k1, b), (.inr k2, c), (.inr k3, e)] := by
  simp only [List.nodup_cons, List.mem_cons, List.not_mem_nil, or_false, not_or] at d
  obtain ⟨⟨d1, d2, d3⟩, ⟨d4, d5⟩, d6, _⟩ := d
  simp [mergeT, putT, d1, d2, d3, d4, d5, d6]
theorem d_go4 (h : Q (.ref p) (tupd (tupd H p (.dct [])) p (.dct [(.inr k0, a), (.inr k1, b), (.inr k2, c), (.inr k3, e)]))) (d : ([k0, k1, k2, k3] : List Str).Nodup := by decide +kernel) :
    dctFin p [(.str k0, a), (.str k1, b), (.str k2, c), (.str k3, e)] (tupd H p (.dct [])) Q :=
  ⟨tupd_same, _, rfl, (by decide : (4 : Nat) ≤ 15), by rw [merge4 d]; exact h⟩
end
theorem d_go4' {H : TH} {Q : TQ} {p : Addr} {k0 k1 k2 k3 : Str} {a b c e : TV} (z : H p = some (.dct [])) (h : Q (.ref p) (tupd H p (.dct [(.inr k0, a), (.inr k1, b), (.inr k2, c), (.inr k3, e)]))) (d : ([k0, k1, k2, k3] : List Str).Nodup := by decide +kernel) :
    dctFin p [(.str k0, a), (.str k1, b), (.str k2, c), (.str k3, e)] H Q := ⟨z, _, rfl, (by decide : (4 : Nat) ≤ 15), by rw [merge4 d]; exact h⟩
theorem d_go0 {H : TH} {Q : TQ} {p : Addr} (z : H p = some (.dct [])) (h : Q (.ref p) (tupd H p (.dct []))) : dctFin p [] H Q := ⟨z, _, rfl, (by decide : (0 : Nat) ≤ 15), h⟩
theorem o_radd {H : TH} {Q : TQ} {l m : List TV} {b : Addr} (e : H b = some (.lst m)) (c : l.length + m.length ≤ sizeLine) (h : ∀ p, H p = none → Q (.ref p) (tupd H p (.lst (l ++ m)))) : bOp .Add (.rol l) (.ref b) H Q :=
  ⟨(false, l), rfl, (false, m), by simp only [seqOf, e], rfl, rfl, c, h⟩
/-! repr -/
section
variable {H : TH} {Q : TQ}
theorem r_bl {b : Bool} (h : Q (.str (PyData.shown (.bool b))) H) : bfDo .repr [.bl b] H Q := ⟨.bool b, rfl, ⟨by simp [PyData.showable], by simp [PyData.depth], by simp [PyData.hasDict], by cases b <;> decide +kernel⟩, h⟩
theorem small_log {i : Int} (h1 : -1000000 ≤ i) (h2 : i ≤ 1000000) : i.natAbs.log2 < 1920 := Nat.lt_trans (log_lt (by omega) (by omega)) (by decide)
theorem r_int {i : Int} (h1 : -1000000 ≤ i) (h2 : i ≤ 1000000) (h : Q (.str (PyData.shown (.int i))) H) : bfDo .repr [.int i] H Q :=
  ⟨.int i, rfl, ⟨by simp only [PyData.showable, decide_eq_true_eq]; exact small_log h1 h2, by simp [PyData.depth], by simp [PyData.hasDict], by
    simp only [PyData.shown]
    exact int_text_fits (small_log h1 h2)⟩, h⟩
theorem r_str {x : Str} (hx : (reprText x).length ≤ sizeLine) (h : Q (.str (PyData.shown (.str x))) H) : bfDo .repr [.str x] H Q := ⟨.str x, rfl, ⟨by simp [PyData.showable], by simp [PyData.depth], by simp [PyData.hasDict], by simpa only [PyData.shown] using hx⟩, h⟩
/-- a list of four truths -/
theorem r_bl4 {p : Addr} {a b c d : Bool} (e : H p = some (.lst [.bl a, .bl b, .bl c, .bl d])) (h : Q (.str (PyData.shown (.list [.bool a, .bool b, .bool c, .bool d]))) H) : bfDo .repr [.ref p] H Q := by
  refine ⟨.list [.bool a, .bool b, .bool c, .bool d], ?_, ⟨?_, ?_, ?_, ?_⟩, h⟩
  · show (match seqOf H (.ref p) with
      | some (t, l) => (allSome (l.map (datOf H 19))).map fun ds => if t = true then PyData.tuple ds else PyData.list ds
      | none => none) = _
    simp only [seqOf, e]
    rfl
  · rfl
  · simp [PyData.depth, PyData.depthAll]
  · rfl
  · cases a <;> cases b <;> cases c <;> cases d <;> decide +kernel
end
end TL


set_option Elab.async false
set_option linter.all false
set_option maxRecDepth 100000
set_option maxHeartbeats 4000000
/-! TL12: what the laws share: draws, things, loops, comprehensions. -/
namespace TL
open PySem PySem.Spec L2
/-- what all is drawn by -/
def drawL (c : Addr) (a l u : Int) : List (Key × TV) := [(.inr "cells", .ref c), (.inr "at", .int a), (.inr "left", .int l), (.inr "used", .int u)]
theorem put_at {c : Addr} {a l u v : Int} : putT (drawL c a l u) (.inr "at") (.int v) = drawL c v l u := by
  have h1 : ("cells" : Str) ≠ "at" := by decide +kernel
  have h2 : ("left" : Str) ≠ "at" := by decide +kernel
  have h3 : ("used" : Str) ≠ "at" := by decide +kernel
  simp [putT, drawL, h1, h2, h3]
theorem put_left {c : Addr} {a l u v : Int} : putT (drawL c a l u) (.inr "left") (.int v) = drawL c a v u := by
  have h1 : ("cells" : Str) ≠ "left" := by decide +kernel
  have h2 : ("at" : Str) ≠ "left" := by decide +kernel
  have h3 : ("used" : Str) ≠ "left" := by decide +kernel
  simp [putT, drawL, h1, h2, h3]
theorem put_used {c : Addr} {a l u v : Int} : putT (drawL c a l u) (.inr "used") (.int v) = drawL c a l v := by
  have h1 : ("cells" : Str) ≠ "used" := by decide +kernel
  have h2 : ("at" : Str) ≠ "used" := by decide +kernel
  have h3 : ("left" : Str) ≠ "used" := by decide +kernel
  simp [putT, drawL, h1, h2, h3]
section
variable {H : TH} {Q : TQ} {p c : Addr} {a l u : Int} {T : TH → Prop} {v : Int}
theorem get_cells (e : H p = some (.dct (drawL c a l u))) (h : Q (.ref c) H) : ixOp (.ref p) (.str "cells") H Q := x_d0 e h
theorem get_at (e : H p = some (.dct (drawL c a l u))) (h : Q (.int a) H) : ixOp (.ref p) (.str "at") H Q := x_d1 e h
theorem get_left (e : H p = some (.dct (drawL c a l u))) (h : Q (.int l) H) : ixOp (.ref p) (.str "left") H Q := x_d2 e h
theorem get_used (e : H p = some (.dct (drawL c a l u))) (h : Q (.int u) H) : ixOp (.ref p) (.str "used") H Q := x_d3 e h
theorem set_at (e : H p = some (.dct (drawL c a l u))) (h : T (tupd H p (.dct (drawL c v l u)))) : setOp (.ref p) (.str "at") (.int v) H T := o_put e rfl (by decide : (4 : Nat) < sizeLine) (by rw [put_at]; exact h)
theorem set_left (e : H p = some (.dct (drawL c a l u))) (h : T (tupd H p (.dct (drawL c a v u)))) : setOp (.ref p) (.str "left") (.int v) H T := o_put e rfl (by decide : (4 : Nat) < sizeLine) (by rw [put_left]; exact h)
theorem set_used (e : H p = some (.dct (drawL c a l u))) (h : T (tupd H p (.dct (drawL c a l v)))) : setOp (.ref p) (.str "used") (.int v) H T := o_put e rfl (by decide : (4 : Nat) < sizeLine) (by rw [put_used]; exact h)
end
/-- a draw that was asked at most m times -/
structure Drw (d : Addr) (m : Int) (H : TH) : Prop where
  ex : ∃ c a l u ns, H d = some (.dct (drawL c a l u)) ∧ c ≠ d ∧ H c = some (.lst (ns.map TV.int)) ∧ ns ≠ [] ∧ ns.length ≤ 1000 ∧ 0 ≤ a ∧ a ≤ m ∧ 0 ≤ u ∧ u ≤ m
theorem Drw.fr {d : Addr} {m : Int} {H H' : TH} (h : Drw d m H) (k : Fr H H') : Drw d m H' := by
  obtain ⟨c, a, l, u, ns, e1, e2, e3, r⟩ := h.ex
  exact ⟨c, a, l, u, ns, k _ _ e1, e2, k _ _ e3, r⟩
theorem Drw.up {d : Addr} {m m' : Int} {H : TH} (h : Drw d m H) (k : m ≤ m') : Drw d m' H := by
  obtain ⟨c, a, l, u, ns, e1, e2, e3, e4, e5, e6, e7, e8, e9⟩ := h.ex
  exact ⟨c, a, l, u, ns, e1, e2, e3, e4, e5, e6, by omega, e8, by omega⟩
theorem kn_fx {d : Addr} {m : Int} {H H' : TH} {x : TV} (h : Kn H x) (f : Fx d H H') (k : Drw d m H') : Kn H' x := by
  cases x with
  | ref a =>
    obtain ⟨o, e, n⟩ := h
    by_cases z : a = d
    · subst z
      obtain ⟨c, b, l, u, ns, e1, _⟩ := k.ex
      exact ⟨_, e1, rfl⟩
    · exact ⟨o, f a o z e, n⟩
  | _ => trivial
theorem drw_ne {d p : Addr} {m : Int} {H : TH} (h : Drw d m H) (hp : H p = none) : p ≠ d := fun z => by
  obtain ⟨c, a, l, u, ns, e1, _⟩ := h.ex
  rw [z, e1] at hp
  cases hp
theorem kn_lst {H : TH} {p : Addr} {l : List TV} (h : H p = some (.lst l)) : Kn H (.ref p) := ⟨_, h, rfl⟩
theorem kn_dct {H : TH} {p : Addr} {l : List (Key × TV)} (h : H p = some (.dct l)) : Kn H (.ref p) := ⟨_, h, rfl⟩
theorem mem_cut {l : List TV} {a b : Option Int} {y : TV} (h : y ∈ cutT l a b) : y ∈ l := List.mem_of_mem_drop (List.mem_of_mem_take h)
theorem len_cut {l : List TV} {a b : Option Int} : (cutT l a b).length ≤ l.length := by
  unfold cutT
  rw [List.length_take, List.length_drop]
  omega
theorem sl_tup {H : TH} {Q : TQ} {l : List TV} {a b : Option Int} (h : Q (.tup (cutT l a b)) H) : slOp (.tup l) a b H Q := h
theorem li_tup {H : TH} {Q : TQ} {l : List TV} (h : ∀ p, H p = none → Q (.ref p) (tupd H p (.lst l))) : bfDo .list [.tup l] H Q := ⟨(true, l), rfl, h⟩
theorem x_hd {H : TH} {Q : TQ} {l : List TV} (l1 : 1 ≤ l.length) (h : ∀ y ∈ l, Q y H) : ixOp (.tup l) (.int 0) H Q := by
  cases l with
  | nil => simp at l1
  | cons y r => exact x_t0 (h y (by simp))
theorem small_le {n : Nat} (h : n ≤ 100) : n ≤ sizeLine := Nat.le_trans h (by decide +kernel)
/-- how a thing is shown -/
abbrev Shows (v : TV) (t : Str) : Prop := ∀ (H : TH) (Q : TQ), Q (.str t) H → bfDo .repr [v] H Q
theorem nd_it {H : TH} {l : List TV} {R : TIt → Prop} (h : R ⟨l, fun _ => True⟩) : Need (seqIt (.tup l) H) R := ⟨_, rfl, h⟩
theorem for_all {g : TGx} {b : TSx} {D : TEnds} {I : TSt → TH → Prop} {P : TV → Prop} (step : ∀ x σ H (D' : TEnds), P x → I σ H → (∀ σ' H', I σ' H' → D'.nx σ' H') → g x σ H (fun _ _ => False) fun σ1 H1 => b D' σ1 H1) :
    ∀ (l : List TV) (σ : TSt) (H : TH), (∀ x ∈ l, P x) → I σ H → (∀ σ' H', I σ' H' → D.nx σ' H') → forGo (fun _ => True) g b D l σ H
  | [], σ, H, _, i, f => ⟨trivial, f σ H i⟩
  | x :: l, σ, H, p, i, f => ⟨trivial, step x σ H _ (p x (by simp)) i fun σ' H' i' => for_all step l σ' H' (fun y hy => p y (List.mem_cons_of_mem _ hy)) i' f⟩
theorem lc_skip {g : TGx} {tt : TTx} {te : TEx} {σ0 : TSt} {Q : List TV → TH → Prop} {I : TH → Prop} {P : TV → Prop} {acc : List TV} (step : ∀ x H (R : TSt → Bool → TH → Prop), P x → I H → (∀ σ1 H', I H' → R σ1 false H') → g x σ0 H (fun _ _ => False) fun σ1 H1 => tt σ1 H1 (fun _ _ => False) (R σ1)) :
    ∀ (l : List TV) (H : TH), (∀ x ∈ l, P x) → I H → (∀ H', I H' → Q acc H') → lcGo (fun _ => True) g tt te σ0 Q acc l H
  | [], H, _, i, f => ⟨trivial, f H i⟩
  | x :: l, H, p, i, f => ⟨trivial, step x H (fun σ1 b H2 => if b = true then te σ1 H2 (fun _ _ => False) fun y H3 => acc.length < sizeLine ∧ lcGo (fun _ => True) g tt te σ0 Q (acc ++ [y]) l H3 else lcGo (fun _ => True) g tt te σ0 Q acc l H2) (p x (by simp)) i
      fun σ1 H' i' => if_f (lc_skip step l H' (fun y hy => p y (List.mem_cons_of_mem _ hy)) i' f)⟩
theorem glbMk {S : SC} {x : Str} (a : idx S.N x = none) (b : okName x = true) (c : glB S.sc x = true) (d : S.calm = true) : GlbN S x := ⟨a, b, c, d⟩
theorem visMk {S : SC} {x : Str} {i : Nat} (a : idx S.N x = some i) (b : (okName x && visB S.sc x) = true) : VisN S x i := ⟨a, b⟩
theorem ts1 {F : Expr → TTx} {c : Expr} {σ : TSt} {H : TH} {E : TX} {R : Bool → TH → Prop} (h : F c σ H E R) : testsW F [c] σ H E R := h
theorem e_lc' {w : Nat → WP} {n : Nat} {S : SC} {G : GE} {σ : TSt} {H : TH} {E : TX} {Q : TQ} {p : Pos} {tg it elt : Expr} {ifs : List Expr} {scope : Scope} {vs : List Nat} (hw : Steps w) (ho : (ownOf S.N scope).map (·.2) = vs) (h1 : (S.calm && blkC S.N S.sc scope (ownOf S.N scope) && tgIn S.N ((ownOf S.N scope).map (·.2)) tg) = true) (h2 : stepE.isSet it = false)
    (h : (w n).i S G tg it σ H E fun J H1 => lcGo J.still ((w n).g (S.blk scope) G tg) (testsW ((w n).t (S.blk scope) G) ifs) ((w n).e (S.blk scope) G elt) (wipeT σ vs) (fun l H2 => ∀ p, H2 p = none → Q (.ref p) (tupd H2 p (.lst l))) [] J.items H1) :
    (w (n + 1)).e S G (.ListComp elt [⟨tg, it, ifs, 0⟩] scope p) σ H E Q := e_lc hw h1 h2 (by rw [ho]; exact h)
theorem h1_c {N : List Str} {own : List (Str × Nat)} {vs : List Nat} {tg : Expr} (e : own.map (·.2) = vs) (h : tgIn N vs tg = true) : tgIn N (own.map (·.2)) tg = true := by rw [e]; exact h
theorem ts0 {F : Expr → TTx} {σ : TSt} {H : TH} {E : TX} {R : Bool → TH → Prop} (h : R true H) : testsW F [] σ H E R := h
/-- every item is turned -/
theorem lc_all {g : TGx} {tt : Expr → TTx} {te : TEx} {σ0 : TSt} {Q : List TV → TH → Prop} {I : List TV → TH → Prop} {P : TV → Prop} (step : ∀ x acc H (R : TV → TH → Prop), P x → I acc H → (∀ y H', I (acc ++ [y]) H' → R y H') → g x σ0 H (fun _ _ => False) fun σ1 H1 => te σ1 H1 (fun _ _ => False) R) :
    ∀ (l acc : List TV) (H : TH), (∀ x ∈ l, P x) → I acc H → acc.length + l.length ≤ sizeLine → (∀ acc' H', acc'.length = acc.length + l.length → I acc' H' → Q acc' H') → lcGo (fun _ => True) g (testsW tt []) te σ0 Q acc l H
  | [], acc, H, _, i, _, f => ⟨trivial, f acc H (by simp) i⟩
  | x :: l, acc, H, p, i, z, f => ⟨trivial, step x acc H (fun y H3 => acc.length < sizeLine ∧ lcGo (fun _ => True) g (testsW tt []) te σ0 Q (acc ++ [y]) l H3) (p x (by simp)) i fun y H' i' =>
      ⟨by simp at z; omega, lc_all step l (acc ++ [y]) H' (fun y hy => p y (List.mem_cons_of_mem _ hy)) i' (by simp at z ⊢; omega) fun acc' H2 e => f acc' H2 (by simp at e ⊢; omega)⟩⟩
/-- what is new lies in a heap of its own name -/
theorem tsame {H H' : TH} {p : Addr} {o : TO} (h : tupd H p o = H') : H' p = some o := h ▸ tupd_same
theorem frof {H H' : TH} {p : Addr} {o : TO} (h : tupd H p o = H') (n : H p = none) : Fr H H' := h ▸ Fr.new n
theorem frof2 {H H' : TH} {p : Addr} {o u : TO} (h : tupd (tupd H p o) p u = H') (n : H p = none) : Fr H H' := h ▸ Fr.new2 n
theorem fxof {H H' : TH} {p : Addr} {o : TO} (h : tupd H p o = H') : Fx p H H' := h ▸ Fx.put
theorem o_ladd {H : TH} {Q : TQ} {l m : List TV} {a b : Addr} (e1 : H a = some (.lst l)) (e : H b = some (.lst m)) (c : l.length + m.length ≤ 1000) (h : ∀ p, H p = none → Q (.ref p) (tupd H p (.lst (l ++ m)))) : bOp .Add (.ref a) (.ref b) H Q :=
  ⟨(false, l), by simp only [seqOf, e1], (false, m), by simp only [seqOf, e], rfl, rfl, Nat.le_trans c (by decide +kernel), h⟩
theorem tu_lst {H : TH} {Q : TQ} {l : List TV} {a : Addr} (e : H a = some (.lst l)) (h : Q (.tup l) H) : bfDo .tuple [.ref a] H Q := ⟨(false, l), by simp only [seqOf, e], h⟩
theorem eq_nil {H : TH} {p q : Addr} (h1 : H p = some (.lst [])) (h2 : H q = some (.lst [])) : eqTV H 60 (.ref p) (.ref q) = some true := by
  show (match eqFlat (.ref p) (.ref q) with | some b => some b | none => match seqOf H (.ref p), seqOf H (.ref q) with | some (t, l), some (u, m) => eqSeq (eqTV H 59) t l u m | _, _ => eqKind H (.ref p) (.ref q)) = _
  simp only [seqOf, h1, h2]
  rfl
theorem xb1 {w : Nat → WP} {n : Nat} {S : SC} {G : GE} {o0 : Option TV} {v : TV} {r : TSt} {H : TH} {E : TX} {Q : TQ} {p : Pos} {x : Str} (hw : Steps w) (hl : VisN S x 1) (h : Q v H) : (w (n + 1)).e S G (.Name x p) (o0 :: some v :: r) H E Q := e_loc hw hl rfl h
theorem xb2 {w : Nat → WP} {n : Nat} {S : SC} {G : GE} {o0 o1 : Option TV} {v : TV} {r : TSt} {H : TH} {E : TX} {Q : TQ} {p : Pos} {x : Str} (hw : Steps w) (hl : VisN S x 2) (h : Q v H) : (w (n + 1)).e S G (.Name x p) (o0 :: o1 :: some v :: r) H E Q := e_loc hw hl rfl h
theorem xb8 {w : Nat → WP} {n : Nat} {S : SC} {G : GE} {o0 o1 o2 o3 o4 o5 o6 o7 : Option TV} {v : TV} {r : TSt} {H : TH} {E : TX} {Q : TQ} {p : Pos} {x : Str} (hw : Steps w) (hl : VisN S x 8) (h : Q v H) : (w (n + 1)).e S G (.Name x p) (o0 :: o1 :: o2 :: o3 :: o4 :: o5 :: o6 :: o7 :: some v :: r) H E Q := e_loc hw hl rfl h
theorem for_n {g : TGx} {b : TSx} {D : TEnds} {I : Nat → TSt → TH → Prop} {P : TV → Prop} {N : Nat} (step : ∀ (k : Nat) x σ H (D' : TEnds), k < N → P x → I k σ H → (∀ σ' H', I (k + 1) σ' H' → D'.nx σ' H') → g x σ H (fun _ _ => False) fun σ1 H1 => b D' σ1 H1) :
    ∀ (l : List TV) (k : Nat) (σ : TSt) (H : TH), k + l.length ≤ N → (∀ x ∈ l, P x) → I k σ H → (∀ j σ' H', I j σ' H' → D.nx σ' H') → forGo (fun _ => True) g b D l σ H
  | [], k, σ, H, _, _, i, f => ⟨trivial, f k σ H i⟩
  | x :: l, k, σ, H, c, p, i, f => ⟨trivial, step k x σ H _ (by simp at c; omega) (p x (by simp)) i fun σ' H' i' => for_n step l (k + 1) σ' H' (by simp at c; omega) (fun y hy => p y (List.mem_cons_of_mem _ hy)) i' f⟩
theorem rg1 {n : Int} {R : TIt → Prop} (h1 : 0 ≤ n) (h2 : n ≤ 1000000) (h : R ⟨intsFrom 0 n.toNat, fun _ => True⟩) : rng1 [.int n] R := ⟨⟨by omega, by omega⟩, h⟩
theorem ints_len {lo : Int} {n : Nat} : (intsFrom lo n).length = n := by simp [intsFrom]
theorem ints_mem {lo : Int} {n : Nat} {x : TV} (h : x ∈ intsFrom lo n) : ∃ i, x = .int i := by
  unfold intsFrom at h
  obtain ⟨k, _, rfl⟩ := List.mem_map.mp h
  exact ⟨_, rfl⟩
/-- what str tells of -/
def StrOk : TV → Prop
  | .int i => -1000000000000 ≤ i ∧ i ≤ 1000000000000
  | .str s => s.length ≤ 1000
  | _ => False
def StrOk2 (u v : TV) : Prop := StrOk u ∧ StrOk v
end TL


set_option Elab.async false
set_option linter.all false
set_option maxRecDepth 100000
set_option maxHeartbeats 4000000
/-! TL13: the mathematics of numbers, words, things. -/
namespace TL
open PySem PySem.Spec L2
/-! what the functions of one thing tell -/
def isW (x : TV) (lo hi : Int) : Bool := match x with
  | .int i => decide (lo ≤ i) && decide (i ≤ hi)
  | _ => false
abbrev isN (x : TV) : Bool := isW x (-1000) 1000
def wordIn (x : TV) (ws : List Str) : Bool := match x with
  | .str y => inS y ws
  | _ => false
def isOp (x : TV) : Bool := wordIn x ["add", "less", "least", "most"]
def isFun (x : TV) : Bool := match x with
  | .tup [.str a, b] => inS a ["plus", "times", "least", "most", "rest"] && isN b && (!(a == "rest") || isW b 1 1000)
  | _ => false
def isTest (x : TV) : Bool := match x with
  | .tup (.str a :: r) => if inS a ["over", "under"] then (match r with | [b] => isN b | _ => false) else inS a ["even", "odd"] && r.isEmpty
  | _ => false
/-- a thing all of whose parts are of built-in types -/
inductive Tg (H : TH) : TV → Prop
  | non : Tg H .non
  | bl {b : Bool} : Tg H (.bl b)
  | int {i : Int} : Tg H (.int i)
  | str {x : Str} : Tg H (.str x)
  | tup {l : List TV} (h : ∀ y ∈ l, Tg H y) : Tg H (.tup l)
  | ref {a : Addr} {o : TO} (e : H a = some o) (p : plainO o = true) : Tg H (.ref a)
theorem Tg.kn {H : TH} {x : TV} (h : Tg H x) : Kn H x := by
  cases h with
  | ref e p => exact ⟨_, e, p⟩
  | _ => trivial
theorem Tg.at {H : TH} {l : List TV} (h : Tg H (.tup l)) {y : TV} (m : y ∈ l) : Tg H y := by
  cases h with
  | tup k => exact k y m
theorem Tg.fr {H H' : TH} {x : TV} (h : Tg H x) (f : Fr H H') : Tg H' x := by
  induction h with
  | non => exact .non
  | bl => exact .bl
  | int => exact .int
  | str => exact .str
  | tup _ ih => exact .tup ih
  | ref e p => exact .ref (f _ _ e) p
theorem Tg.fx {d : Addr} {m : Int} {H H' : TH} {x : TV} (h : Tg H x) (f : Fx d H H') (k : Drw d m H') : Tg H' x := by
  induction h with
  | non => exact .non
  | bl => exact .bl
  | int => exact .int
  | str => exact .str
  | tup _ ih => exact .tup ih
  | @ref a o e p =>
    by_cases z : a = d
    · subst z
      obtain ⟨c, b, l, u, ns, e1, _⟩ := k.ex
      exact .ref e1 rfl
    · exact .ref (f a o z e) p
mutual
def noRef : TV → Bool
  | .tup l => noRefs l
  | .rol _ => false
  | .ref _ => false
  | _ => true
def noRefs : List TV → Bool
  | [] => true
  | x :: r => noRef x && noRefs r
end
theorem noRefs_mem : ∀ {l : List TV} {x : TV}, noRefs l = true → x ∈ l → noRef x = true
  | [], _, _, m => by cases m
  | y :: r, x, h, m => by
    simp only [noRefs, Bool.and_eq_true] at h
    rcases List.mem_cons.mp m with e | m
    · rw [e]; exact h.1
    · exact noRefs_mem h.2 m
mutual
theorem tg_noref {H : TH} : ∀ {x : TV}, noRef x = true → Tg H x
  | .non, _ => .non
  | .bl _, _ => .bl
  | .int _, _ => .int
  | .str _, _ => .str
  | .tup l, h => .tup (tgs_noref (l := l) h)
theorem tgs_noref {H : TH} : ∀ {l : List TV}, noRefs l = true → ∀ y ∈ l, Tg H y
  | [], _, _, m => by cases m
  | x :: r, h, y, m => by
    simp only [noRefs, Bool.and_eq_true] at h
    rcases List.mem_cons.mp m with e | m
    · rw [e]; exact tg_noref h.1
    · exact tgs_noref h.2 y m
end
/-- no deeper than n -/
def dpB : Nat → TV → Bool
  | 0, _ => false
  | n + 1, .tup l => decide (l.length ≤ 1000) && l.all (dpB n)
  | _ + 1, _ => true
theorem dp_tup {n : Nat} {l : List TV} : dpB (n + 1) (.tup l) = (decide (l.length ≤ 1000) && l.all (dpB n)) := rfl
theorem dpB_up : ∀ {n : Nat} {x : TV}, dpB n x = true → dpB (n + 1) x = true
  | 0, _, h => by cases h
  | n + 1, .tup l, h => by
    rw [dp_tup, Bool.and_eq_true, List.all_eq_true] at h ⊢
    exact ⟨h.1, fun y hy => dpB_up (h.2 y hy)⟩
  | _ + 1, .non, _ => rfl
  | _ + 1, .bl _, _ => rfl
  | _ + 1, .int _, _ => rfl
  | _ + 1, .str _, _ => rfl
  | _ + 1, .rol _, _ => rfl
  | _ + 1, .ref _, _ => rfl
/-- all of a list's -/
theorem al_nil {R : TV → Prop} : ∀ y ∈ ([] : List TV), R y := fun _ h => by cases h
theorem al_cons {R : TV → Prop} {x : TV} {l : List TV} (h : R x) (t : ∀ y ∈ l, R y) : ∀ y ∈ x :: l, R y := fun y m => by
  rcases List.mem_cons.mp m with e | m
  · rw [e]; exact h
  · exact t y m
/-- a thing of a depth -/
def Td (n : Nat) (H : TH) (x : TV) : Prop := Tg H x ∧ dpB n x = true
theorem td_no {n : Nat} {H : TH} {x : TV} (h : noRef x = true) (d : dpB n x = true) : Td n H x := ⟨tg_noref h, d⟩
theorem td_tup {n : Nat} {H : TH} {l : List TV} (hz : l.length ≤ 1000) (h : ∀ y ∈ l, Td n H y) : Td (n + 1) H (.tup l) := ⟨.tup fun y m => (h y m).1, by rw [dp_tup, Bool.and_eq_true, List.all_eq_true]; exact ⟨decide_eq_true hz, fun y m => (h y m).2⟩⟩
theorem Td.len {n : Nat} {H : TH} {l : List TV} (h : Td n H (.tup l)) : l.length ≤ 1000 := by
  cases n with
  | zero => cases h.2
  | succ n =>
    have := h.2
    rw [dp_tup, Bool.and_eq_true] at this
    exact of_decide_eq_true this.1
theorem Td.at {n : Nat} {H : TH} {l : List TV} (h : Td (n + 1) H (.tup l)) {y : TV} (m : y ∈ l) : Td n H y := ⟨h.1.at m, (by
  have := h.2
  rw [dp_tup, Bool.and_eq_true, List.all_eq_true] at this
  exact this.2 y m)⟩
theorem Td.fr {n : Nat} {H H' : TH} {x : TV} (h : Td n H x) (f : Fr H H') : Td n H' x := ⟨h.1.fr f, h.2⟩
theorem Td.fx {n : Nat} {d : Addr} {m : Int} {H H' : TH} {x : TV} (h : Td n H x) (f : Fx d H H') (k : Drw d m H') : Td n H' x := ⟨h.1.fx f k, h.2⟩
theorem Td.up {n : Nat} {H : TH} {x : TV} (h : Td n H x) : Td (n + 1) H x := ⟨h.1, dpB_up h.2⟩
theorem tg_lst {H : TH} {p : Addr} {l : List TV} (h : H p = some (.lst l)) : Tg H (.ref p) := .ref h rfl
theorem tg_dct {H : TH} {p : Addr} {l : List (Key × TV)} (h : H p = some (.dct l)) : Tg H (.ref p) := .ref h rfl
def sp1 (f : TV → Bool) : TSp := fun vs H _ Q => ∃ x, vs = [x] ∧ Tg H x ∧ Q (.bl (f x)) H
theorem u1 {f : TV → Bool} {x : TV} {H : TH} {E : TX} {Q : TQ} (hk : Tg H x) (h : Q (.bl (f x)) H) : sp1 f [x] H E Q := ⟨x, rfl, hk, h⟩
def spk (f : TV → Bool) : TSp := fun vs H _ Q => ∃ x, vs = [x] ∧ Kn H x ∧ Q (.bl (f x)) H
theorem uk {f : TV → Bool} {x : TV} {H : TH} {E : TX} {Q : TQ} (hk : Kn H x) (h : Q (.bl (f x)) H) : spk f [x] H E Q := ⟨x, rfl, hk, h⟩
def spWhole : TSp := fun vs H _ Q => ∃ x lo hi, vs = [x, .int lo, .int hi] ∧ Kn H x ∧ Q (.bl (isW x lo hi)) H
theorem u_whole {x : TV} {lo hi : Int} {H : TH} {E : TX} {Q : TQ} (hk : Kn H x) (h : Q (.bl (isW x lo hi)) H) : spWhole [x, .int lo, .int hi] H E Q := ⟨x, lo, hi, rfl, hk, h⟩
def spWordOf : TSp := fun vs H _ Q => ∃ x ws, vs = [x, .tup (ws.map TV.str)] ∧ Kn H x ∧ Q (.bl (wordIn x ws)) H
theorem u_word4 {x : TV} {a b c d : Str} {H : TH} {E : TX} {Q : TQ} (hk : Kn H x) (h : Q (.bl (wordIn x [a, b, c, d])) H) : spWordOf [x, .tup [.str a, .str b, .str c, .str d]] H E Q := ⟨x, [a, b, c, d], rfl, hk, h⟩
theorem u_word5 {x : TV} {a b c d e : Str} {H : TH} {E : TX} {Q : TQ} (hk : Kn H x) (h : Q (.bl (wordIn x [a, b, c, d, e])) H) : spWordOf [x, .tup [.str a, .str b, .str c, .str d, .str e]] H E Q := ⟨x, [a, b, c, d, e], rfl, hk, h⟩
/-- a test's words: no two of them are alike -/
theorem word4 {a : Str} : inS a ["over", "under", "even", "odd"] = (inS a ["over", "under"] || inS a ["even", "odd"]) := by
  simp only [inS, Bool.or_false, Bool.or_assoc]
theorem even1 {a : Str} : inS a ["even", "odd"] = (("even" == a) || ("odd" == a)) := by
  simp only [inS, Bool.or_false]
theorem even2 {a : Str} (h : inS a ["over", "under"] = true) : inS a ["even", "odd"] = false := by
  simp only [inS, Bool.or_false, Bool.or_eq_true, beq_iff_eq] at h
  rcases h with rfl | rfl <;> decide +kernel
theorem beqC {a b : Str} : (a == b) = (b == a) := by
  rw [Bool.eq_iff_iff, beq_iff_eq, beq_iff_eq]
  exact eq_comm
def farV (i : Int) : TV := if -1000 ≤ i ∧ i ≤ 1000 then .int i else .str "far"
theorem far_in {i : Int} (h1 : -1000 ≤ i) (h2 : i ≤ 1000) : farV i = .int i := if_pos ⟨h1, h2⟩
theorem far_out {i : Int} (h : ¬ (-1000 ≤ i ∧ i ≤ 1000)) : farV i = .str "far" := if_neg h
def spNear : TSp := fun vs H _ Q => ∃ i, vs = [.int i] ∧ Q (farV i) H
theorem u_near {i : Int} {H : TH} {E : TX} {Q : TQ} (h : Q (farV i) H) : spNear [.int i] H E Q := ⟨i, rfl, h⟩
theorem sbeq (a b : Str) : (a == b) = decide (a = b) := by
  rw [Bool.eq_iff_iff]
  simp
theorem c_inT2 {H : TH} {Q : TQ} {a p q : Str} {r : List TV} (h : Q (.bl (((p == a) || (q == a)) && r.isEmpty)) H) : cOp .In (.tup (.str a :: r)) (.tup [.tup [.str p], .tup [.str q]]) H Q := by
  have e : ∀ y : Str, eqTV H 60 (.tup [.str y]) (.tup (.str a :: r)) = some ((y == a) && r.isEmpty) := fun y => by
    show eqSeq (eqTV H 59) true [.str y] true (.str a :: r) = _
    unfold eqSeq
    cases r with
    | nil => simp [allKnown, eqTV, eqFlat]
    | cons z r => simp [allKnown, eqTV, eqFlat]
  refine ⟨(true, _), rfl, (((p == a) || (q == a)) && r.isEmpty), ?_, h⟩
  unfold inTV
  rw [e]
  unfold inTV
  rw [e]
  unfold inTV
  cases r.isEmpty <;> cases (p == a) <;> cases (q == a) <;> rfl
/-! what funs, tests, ops come to -/
def funV (w : Str) (n x : Int) : TV :=
  if w = "plus" then farV (x + n) else if w = "times" then farV (x * n) else if w = "rest" then .int (x % n) else if w = "least" then .int (if n < x then n else x) else .int (if n > x then n else x)
structure FunOk (w : Str) (n x : Int) : Prop where
  w : w = "plus" ∨ w = "times" ∨ w = "least" ∨ w = "most" ∨ (w = "rest" ∧ 1 ≤ n)
  n1 : -1000 ≤ n
  n2 : n ≤ 1000
  x1 : -1000 ≤ x
  x2 : x ≤ 1000
theorem fun_plus {n x : Int} : funV "plus" n x = farV (x + n) := if_pos rfl
theorem fun_times {n x : Int} : funV "times" n x = farV (x * n) := by unfold funV; rw [if_neg (by decide +kernel), if_pos rfl]
theorem fun_rest {n x : Int} : funV "rest" n x = .int (x % n) := by unfold funV; rw [if_neg (by decide +kernel), if_neg (by decide +kernel), if_pos rfl]
theorem fun_least {n x : Int} : funV "least" n x = .int (if n < x then n else x) := by unfold funV; rw [if_neg (by decide +kernel), if_neg (by decide +kernel), if_neg (by decide +kernel), if_pos rfl]
theorem fun_most {n x : Int} : funV "most" n x = .int (if n > x then n else x) := by unfold funV; rw [if_neg (by decide +kernel), if_neg (by decide +kernel), if_neg (by decide +kernel), if_neg (by decide +kernel)]
def spFunOf : TSp := fun vs H _ Q => ∃ w n x, vs = [.tup [.str w, .int n], .int x] ∧ FunOk w n x ∧ Q (funV w n x) H
theorem u_fun_of {w : Str} {n x : Int} {H : TH} {E : TX} {Q : TQ} (k : FunOk w n x) (h : Q (funV w n x) H) : spFunOf [.tup [.str w, .int n], .int x] H E Q := ⟨w, n, x, rfl, k, h⟩
theorem abs2 {x : Int} : (if x < 0 then -x else x) % 2 = x % 2 := by
  by_cases h : x < 0
  · rw [if_pos h]; omega
  · rw [if_neg h]
theorem pass_odd {x : Int} : (!(x % 2 == 0)) = (((if x < 0 then -x else x) % 2 == 1) == (("odd" : Str) == ("odd" : Str))) := by
  rw [show (("odd" : Str) == ("odd" : Str)) = true from by decide +kernel, abs2]
  rcases (show x % 2 = 0 ∨ x % 2 = 1 by omega) with e | e <;> rw [e] <;> rfl
theorem pass_even {x : Int} : (x % 2 == 0) = (((if x < 0 then -x else x) % 2 == 1) == (("even" : Str) == ("odd" : Str))) := by
  rw [show (("even" : Str) == ("odd" : Str)) = false from by decide +kernel, abs2]
  rcases (show x % 2 = 0 ∨ x % 2 = 1 by omega) with e | e <;> rw [e] <;> rfl
def passB (o : Bool) (n x : Int) : Bool := if o then decide (n < x) else decide (x < n)
def spPasses : TSp := fun vs H _ Q => ∃ t x, vs = [.tup t, .int x] ∧ ((∃ n, t = [.str "over", .int n] ∧ Q (.bl (decide (n < x))) H) ∨ (∃ n, t = [.str "under", .int n] ∧ Q (.bl (decide (x < n))) H) ∨ (t = [.str "even"] ∧ Q (.bl (x % 2 == 0)) H) ∨ (t = [.str "odd"] ∧ Q (.bl (!(x % 2 == 0))) H))
def opV (w : Str) (x y : Int) : TV :=
  if w = "add" then farV (x + y) else if w = "less" then farV (x - y) else if w = "least" then .int (if y < x then y else x) else .int (if y > x then y else x)
structure OpOk (w : Str) (x y : Int) : Prop where
  w : w = "add" ∨ w = "less" ∨ w = "least" ∨ w = "most"
  n1 : -1000 ≤ x
  n2 : x ≤ 1000
  x1 : -1000 ≤ y
  x2 : y ≤ 1000
theorem opv_add {n x : Int} : opV "add" n x = farV (n + x) := if_pos rfl
theorem opv_less {n x : Int} : opV "less" n x = farV (n - x) := by unfold opV; rw [if_neg (by decide +kernel), if_pos rfl]
theorem opv_least {n x : Int} : opV "least" n x = .int (if x < n then x else n) := by unfold opV; rw [if_neg (by decide +kernel), if_neg (by decide +kernel), if_pos rfl]
theorem opv_most {n x : Int} : opV "most" n x = .int (if x > n then x else n) := by unfold opV; rw [if_neg (by decide +kernel), if_neg (by decide +kernel), if_neg (by decide +kernel)]
def spOpOf : TSp := fun vs H _ Q => ∃ w x y, vs = [.str w, .int x, .int y] ∧ OpOk w x y ∧ Q (opV w x y) H
theorem u_op_of {w : Str} {n x : Int} {H : TH} {E : TX} {Q : TQ} (k : OpOk w n x) (h : Q (opV w n x) H) : spOpOf [.str w, .int n, .int x] H E Q := ⟨w, n, x, rfl, k, h⟩
end TL


set_option Elab.async false
set_option linter.all false
set_option maxRecDepth 100000
namespace K06
open PySem PySem.Spec L2 TL
def top (i : Nat) : Stmt := PySem.Challenge.pw_pullpush_k06_takers.main.body.getD i (.Pass ⟨0, 0, 0, 0⟩)
def st_is_whole : Stmt := top 17
abbrev N_is_whole : List Str := ["thing", "least", "most"]
def S_is_whole : SC := ⟨N_is_whole, defScope st_is_whole, fun _ => true, true, true⟩
theorem sc_is_whole : FnScope N_is_whole ["thing", "least", "most"] (defScope st_is_whole) := ⟨rfl, rfl, rfl, by decide +kernel, rfl, by decide +kernel, by decide +kernel⟩
theorem l_is_whole_0 : LocN S_is_whole "thing" 0 := ⟨by decide +kernel, by decide +kernel, by decide +kernel⟩
theorem l_is_whole_1 : LocN S_is_whole "least" 1 := ⟨by decide +kernel, by decide +kernel, by decide +kernel⟩
theorem l_is_whole_2 : LocN S_is_whole "most" 2 := ⟨by decide +kernel, by decide +kernel, by decide +kernel⟩
theorem g_is_whole_isinstance : GlbN S_is_whole "isinstance" := ⟨by decide +kernel, by decide +kernel, by decide +kernel, by decide +kernel⟩
theorem g_is_whole_int : GlbN S_is_whole "int" := ⟨by decide +kernel, by decide +kernel, by decide +kernel, by decide +kernel⟩
theorem g_is_whole_bool : GlbN S_is_whole "bool" := ⟨by decide +kernel, by decide +kernel, by decide +kernel, by decide +kernel⟩
def st_is_number : Stmt := top 22
abbrev N_is_number : List Str := ["thing"]
def S_is_number : SC := ⟨N_is_number, defScope st_is_number, fun _ => true, true, true⟩
theorem sc_is_number : FnScope N_is_number ["thing"] (defScope st_is_number) := ⟨rfl, rfl, rfl, by decide +kernel, rfl, by decide +kernel, by decide +kernel⟩
theorem l_is_number_0 : LocN S_is_number "thing" 0 := ⟨by decide +kernel, by decide +kernel, by decide +kernel⟩
theorem g_is_number_is_whole : GlbN S_is_number "is_whole" := ⟨by decide +kernel, by decide +kernel, by decide +kernel, by decide +kernel⟩
theorem g_is_number_MOST : GlbN S_is_number "MOST" := ⟨by decide +kernel, by decide +kernel, by decide +kernel, by decide +kernel⟩
def st_is_word_of : Stmt := top 23
abbrev N_is_word_of : List Str := ["thing", "words"]
def S_is_word_of : SC := ⟨N_is_word_of, defScope st_is_word_of, fun _ => true, true, true⟩
theorem sc_is_word_of : FnScope N_is_word_of ["thing", "words"] (defScope st_is_word_of) := ⟨rfl, rfl, rfl, by decide +kernel, rfl, by decide +kernel, by decide +kernel⟩
theorem l_is_word_of_0 : LocN S_is_word_of "thing" 0 := ⟨by decide +kernel, by decide +kernel, by decide +kernel⟩
theorem l_is_word_of_1 : LocN S_is_word_of "words" 1 := ⟨by decide +kernel, by decide +kernel, by decide +kernel⟩
theorem g_is_word_of_isinstance : GlbN S_is_word_of "isinstance" := ⟨by decide +kernel, by decide +kernel, by decide +kernel, by decide +kernel⟩
theorem g_is_word_of_str : GlbN S_is_word_of "str" := ⟨by decide +kernel, by decide +kernel, by decide +kernel, by decide +kernel⟩
def st_is_test : Stmt := top 24
abbrev N_is_test : List Str := ["thing"]
def S_is_test : SC := ⟨N_is_test, defScope st_is_test, fun _ => true, true, true⟩
theorem sc_is_test : FnScope N_is_test ["thing"] (defScope st_is_test) := ⟨rfl, rfl, rfl, by decide +kernel, rfl, by decide +kernel, by decide +kernel⟩
theorem l_is_test_0 : LocN S_is_test "thing" 0 := ⟨by decide +kernel, by decide +kernel, by decide +kernel⟩
theorem g_is_test_isinstance : GlbN S_is_test "isinstance" := ⟨by decide +kernel, by decide +kernel, by decide +kernel, by decide +kernel⟩
theorem g_is_test_tuple : GlbN S_is_test "tuple" := ⟨by decide +kernel, by decide +kernel, by decide +kernel, by decide +kernel⟩
theorem g_is_test_is_word_of : GlbN S_is_test "is_word_of" := ⟨by decide +kernel, by decide +kernel, by decide +kernel, by decide +kernel⟩
theorem g_is_test_TESTS : GlbN S_is_test "TESTS" := ⟨by decide +kernel, by decide +kernel, by decide +kernel, by decide +kernel⟩
theorem g_is_test_len : GlbN S_is_test "len" := ⟨by decide +kernel, by decide +kernel, by decide +kernel, by decide +kernel⟩
theorem g_is_test_is_number : GlbN S_is_test "is_number" := ⟨by decide +kernel, by decide +kernel, by decide +kernel, by decide +kernel⟩
def st_is_op : Stmt := top 25
abbrev N_is_op : List Str := ["thing"]
def S_is_op : SC := ⟨N_is_op, defScope st_is_op, fun _ => true, true, true⟩
theorem sc_is_op : FnScope N_is_op ["thing"] (defScope st_is_op) := ⟨rfl, rfl, rfl, by decide +kernel, rfl, by decide +kernel, by decide +kernel⟩
theorem l_is_op_0 : LocN S_is_op "thing" 0 := ⟨by decide +kernel, by decide +kernel, by decide +kernel⟩
theorem g_is_op_is_word_of : GlbN S_is_op "is_word_of" := ⟨by decide +kernel, by decide +kernel, by decide +kernel, by decide +kernel⟩
theorem g_is_op_OPS : GlbN S_is_op "OPS" := ⟨by decide +kernel, by decide +kernel, by decide +kernel, by decide +kernel⟩
def st_is_taker : Stmt := top 28
abbrev N_is_taker : List Str := ["thing"]
def S_is_taker : SC := ⟨N_is_taker, defScope st_is_taker, fun _ => true, true, true⟩
theorem sc_is_taker : FnScope N_is_taker ["thing"] (defScope st_is_taker) := ⟨rfl, rfl, rfl, by decide +kernel, rfl, by decide +kernel, by decide +kernel⟩
theorem l_is_taker_0 : LocN S_is_taker "thing" 0 := ⟨by decide +kernel, by decide +kernel, by decide +kernel⟩
theorem g_is_taker_isinstance : GlbN S_is_taker "isinstance" := ⟨by decide +kernel, by decide +kernel, by decide +kernel, by decide +kernel⟩
theorem g_is_taker_tuple : GlbN S_is_taker "tuple" := ⟨by decide +kernel, by decide +kernel, by decide +kernel, by decide +kernel⟩
theorem g_is_taker_str : GlbN S_is_taker "str" := ⟨by decide +kernel, by decide +kernel, by decide +kernel, by decide +kernel⟩
theorem g_is_taker_len : GlbN S_is_taker "len" := ⟨by decide +kernel, by decide +kernel, by decide +kernel, by decide +kernel⟩
theorem g_is_taker_is_whole : GlbN S_is_taker "is_whole" := ⟨by decide +kernel, by decide +kernel, by decide +kernel, by decide +kernel⟩
theorem g_is_taker_MOST_TAKEN : GlbN S_is_taker "MOST_TAKEN" := ⟨by decide +kernel, by decide +kernel, by decide +kernel, by decide +kernel⟩
theorem g_is_taker_is_test : GlbN S_is_taker "is_test" := ⟨by decide +kernel, by decide +kernel, by decide +kernel, by decide +kernel⟩
theorem g_is_taker_is_op : GlbN S_is_taker "is_op" := ⟨by decide +kernel, by decide +kernel, by decide +kernel, by decide +kernel⟩
theorem g_is_taker_is_number : GlbN S_is_taker "is_number" := ⟨by decide +kernel, by decide +kernel, by decide +kernel, by decide +kernel⟩
def st_need_taker : Stmt := top 29
abbrev N_need_taker : List Str := ["thing"]
def S_need_taker : SC := ⟨N_need_taker, defScope st_need_taker, fun _ => true, true, true⟩
theorem sc_need_taker : FnScope N_need_taker ["thing"] (defScope st_need_taker) := ⟨rfl, rfl, rfl, by decide +kernel, rfl, by decide +kernel, by decide +kernel⟩
theorem l_need_taker_0 : LocN S_need_taker "thing" 0 := ⟨by decide +kernel, by decide +kernel, by decide +kernel⟩
theorem g_need_taker_is_taker : GlbN S_need_taker "is_taker" := ⟨by decide +kernel, by decide +kernel, by decide +kernel, by decide +kernel⟩
theorem g_need_taker_BadTaker : GlbN S_need_taker "BadTaker" := ⟨by decide +kernel, by decide +kernel, by decide +kernel, by decide +kernel⟩
def st_Lbegin : Stmt := top 31
abbrev N_Lbegin : List Str := ["_law_script"]
def S_Lbegin : SC := ⟨N_Lbegin, defScope st_Lbegin, fun _ => true, true, true⟩
theorem sc_Lbegin : FnScope N_Lbegin ["_law_script"] (defScope st_Lbegin) := ⟨rfl, rfl, rfl, by decide +kernel, rfl, by decide +kernel, by decide +kernel⟩
theorem l_Lbegin_0 : LocN S_Lbegin "_law_script" 0 := ⟨by decide +kernel, by decide +kernel, by decide +kernel⟩
def st_Lmixed : Stmt := top 32
abbrev N_Lmixed : List Str := ["_law_cell", "_law_k", "_law_number"]
def S_Lmixed : SC := ⟨N_Lmixed, defScope st_Lmixed, fun _ => true, true, true⟩
theorem sc_Lmixed : FnScope N_Lmixed ["_law_cell", "_law_k"] (defScope st_Lmixed) := ⟨rfl, rfl, rfl, by decide +kernel, rfl, by decide +kernel, by decide +kernel⟩
theorem l_Lmixed_0 : LocN S_Lmixed "_law_cell" 0 := ⟨by decide +kernel, by decide +kernel, by decide +kernel⟩
theorem l_Lmixed_1 : LocN S_Lmixed "_law_k" 1 := ⟨by decide +kernel, by decide +kernel, by decide +kernel⟩
theorem l_Lmixed_2 : LocN S_Lmixed "_law_number" 2 := ⟨by decide +kernel, by decide +kernel, by decide +kernel⟩
def st_Lnext : Stmt := top 33
abbrev N_Lnext : List Str := ["_law_draw", "_law_many", "_law_found", "_law_cells", "_law_cell"]
def S_Lnext : SC := ⟨N_Lnext, defScope st_Lnext, fun _ => true, true, true⟩
theorem sc_Lnext : FnScope N_Lnext ["_law_draw", "_law_many"] (defScope st_Lnext) := ⟨rfl, rfl, rfl, by decide +kernel, rfl, by decide +kernel, by decide +kernel⟩
theorem l_Lnext_0 : LocN S_Lnext "_law_draw" 0 := ⟨by decide +kernel, by decide +kernel, by decide +kernel⟩
theorem l_Lnext_1 : LocN S_Lnext "_law_many" 1 := ⟨by decide +kernel, by decide +kernel, by decide +kernel⟩
theorem l_Lnext_2 : LocN S_Lnext "_law_found" 2 := ⟨by decide +kernel, by decide +kernel, by decide +kernel⟩
theorem l_Lnext_3 : LocN S_Lnext "_law_cells" 3 := ⟨by decide +kernel, by decide +kernel, by decide +kernel⟩
theorem l_Lnext_4 : LocN S_Lnext "_law_cell" 4 := ⟨by decide +kernel, by decide +kernel, by decide +kernel⟩
theorem g_Lnext_len : GlbN S_Lnext "len" := ⟨by decide +kernel, by decide +kernel, by decide +kernel, by decide +kernel⟩
theorem g_Lnext_Lmixed : GlbN S_Lnext "_law_mixed" := ⟨by decide +kernel, by decide +kernel, by decide +kernel, by decide +kernel⟩
def st_Lis_within : Stmt := top 34
abbrev N_Lis_within : List Str := ["_law_thing", "_law_least", "_law_most"]
def S_Lis_within : SC := ⟨N_Lis_within, defScope st_Lis_within, fun _ => true, true, true⟩
theorem sc_Lis_within : FnScope N_Lis_within ["_law_thing", "_law_least", "_law_most"] (defScope st_Lis_within) := ⟨rfl, rfl, rfl, by decide +kernel, rfl, by decide +kernel, by decide +kernel⟩
theorem l_Lis_within_0 : LocN S_Lis_within "_law_thing" 0 := ⟨by decide +kernel, by decide +kernel, by decide +kernel⟩
theorem l_Lis_within_1 : LocN S_Lis_within "_law_least" 1 := ⟨by decide +kernel, by decide +kernel, by decide +kernel⟩
theorem l_Lis_within_2 : LocN S_Lis_within "_law_most" 2 := ⟨by decide +kernel, by decide +kernel, by decide +kernel⟩
theorem g_Lis_within_isinstance : GlbN S_Lis_within "isinstance" := ⟨by decide +kernel, by decide +kernel, by decide +kernel, by decide +kernel⟩
theorem g_Lis_within_int : GlbN S_Lis_within "int" := ⟨by decide +kernel, by decide +kernel, by decide +kernel, by decide +kernel⟩
theorem g_Lis_within_bool : GlbN S_Lis_within "bool" := ⟨by decide +kernel, by decide +kernel, by decide +kernel, by decide +kernel⟩
def st_Lis_test : Stmt := top 35
abbrev N_Lis_test : List Str := ["_law_thing"]
def S_Lis_test : SC := ⟨N_Lis_test, defScope st_Lis_test, fun _ => true, true, true⟩
theorem sc_Lis_test : FnScope N_Lis_test ["_law_thing"] (defScope st_Lis_test) := ⟨rfl, rfl, rfl, by decide +kernel, rfl, by decide +kernel, by decide +kernel⟩
theorem l_Lis_test_0 : LocN S_Lis_test "_law_thing" 0 := ⟨by decide +kernel, by decide +kernel, by decide +kernel⟩
theorem g_Lis_test_isinstance : GlbN S_Lis_test "isinstance" := ⟨by decide +kernel, by decide +kernel, by decide +kernel, by decide +kernel⟩
theorem g_Lis_test_tuple : GlbN S_Lis_test "tuple" := ⟨by decide +kernel, by decide +kernel, by decide +kernel, by decide +kernel⟩
theorem g_Lis_test_str : GlbN S_Lis_test "str" := ⟨by decide +kernel, by decide +kernel, by decide +kernel, by decide +kernel⟩
theorem g_Lis_test_len : GlbN S_Lis_test "len" := ⟨by decide +kernel, by decide +kernel, by decide +kernel, by decide +kernel⟩
theorem g_Lis_test_Lis_within : GlbN S_Lis_test "_law_is_within" := ⟨by decide +kernel, by decide +kernel, by decide +kernel, by decide +kernel⟩
def st_Lis_so : Stmt := top 36
abbrev N_Lis_so : List Str := ["_law_thing", "_law_good"]
def S_Lis_so : SC := ⟨N_Lis_so, defScope st_Lis_so, fun _ => true, true, true⟩
theorem sc_Lis_so : FnScope N_Lis_so ["_law_thing"] (defScope st_Lis_so) := ⟨rfl, rfl, rfl, by decide +kernel, rfl, by decide +kernel, by decide +kernel⟩
theorem l_Lis_so_0 : LocN S_Lis_so "_law_thing" 0 := ⟨by decide +kernel, by decide +kernel, by decide +kernel⟩
theorem l_Lis_so_1 : LocN S_Lis_so "_law_good" 1 := ⟨by decide +kernel, by decide +kernel, by decide +kernel⟩
theorem g_Lis_so_isinstance : GlbN S_Lis_so "isinstance" := ⟨by decide +kernel, by decide +kernel, by decide +kernel, by decide +kernel⟩
theorem g_Lis_so_tuple : GlbN S_Lis_so "tuple" := ⟨by decide +kernel, by decide +kernel, by decide +kernel, by decide +kernel⟩
theorem g_Lis_so_str : GlbN S_Lis_so "str" := ⟨by decide +kernel, by decide +kernel, by decide +kernel, by decide +kernel⟩
theorem g_Lis_so_len : GlbN S_Lis_so "len" := ⟨by decide +kernel, by decide +kernel, by decide +kernel, by decide +kernel⟩
theorem g_Lis_so_Lis_within : GlbN S_Lis_so "_law_is_within" := ⟨by decide +kernel, by decide +kernel, by decide +kernel, by decide +kernel⟩
theorem g_Lis_so_Lis_test : GlbN S_Lis_so "_law_is_test" := ⟨by decide +kernel, by decide +kernel, by decide +kernel, by decide +kernel⟩
def st_Lodd : Stmt := top 37
abbrev N_Lodd : List Str := ["_law_draw", "_law_some"]
def S_Lodd : SC := ⟨N_Lodd, defScope st_Lodd, fun _ => true, true, true⟩
theorem sc_Lodd : FnScope N_Lodd ["_law_draw"] (defScope st_Lodd) := ⟨rfl, rfl, rfl, by decide +kernel, rfl, by decide +kernel, by decide +kernel⟩
theorem l_Lodd_0 : LocN S_Lodd "_law_draw" 0 := ⟨by decide +kernel, by decide +kernel, by decide +kernel⟩
theorem l_Lodd_1 : LocN S_Lodd "_law_some" 1 := ⟨by decide +kernel, by decide +kernel, by decide +kernel⟩
theorem g_Lodd_Lnext : GlbN S_Lodd "_law_next" := ⟨by decide +kernel, by decide +kernel, by decide +kernel, by decide +kernel⟩
def st_Lmade : Stmt := top 38
abbrev N_Lmade : List Str := ["_law_draw", "_law_number", "_law_tests", "_law_ops", "_law_some", "_law_found", "_law_at", "_law_way"]
def S_Lmade : SC := ⟨N_Lmade, defScope st_Lmade, fun _ => true, true, true⟩
theorem sc_Lmade : FnScope N_Lmade ["_law_draw"] (defScope st_Lmade) := ⟨rfl, rfl, rfl, by decide +kernel, rfl, by decide +kernel, by decide +kernel⟩
theorem l_Lmade_0 : LocN S_Lmade "_law_draw" 0 := ⟨by decide +kernel, by decide +kernel, by decide +kernel⟩
theorem l_Lmade_1 : LocN S_Lmade "_law_number" 1 := ⟨by decide +kernel, by decide +kernel, by decide +kernel⟩
theorem l_Lmade_2 : LocN S_Lmade "_law_tests" 2 := ⟨by decide +kernel, by decide +kernel, by decide +kernel⟩
theorem l_Lmade_3 : LocN S_Lmade "_law_ops" 3 := ⟨by decide +kernel, by decide +kernel, by decide +kernel⟩
theorem l_Lmade_4 : LocN S_Lmade "_law_some" 4 := ⟨by decide +kernel, by decide +kernel, by decide +kernel⟩
theorem l_Lmade_5 : LocN S_Lmade "_law_found" 5 := ⟨by decide +kernel, by decide +kernel, by decide +kernel⟩
theorem l_Lmade_6 : LocN S_Lmade "_law_at" 6 := ⟨by decide +kernel, by decide +kernel, by decide +kernel⟩
theorem l_Lmade_7 : LocN S_Lmade "_law_way" 7 := ⟨by decide +kernel, by decide +kernel, by decide +kernel⟩
theorem g_Lmade_Lnext : GlbN S_Lmade "_law_next" := ⟨by decide +kernel, by decide +kernel, by decide +kernel, by decide +kernel⟩
theorem g_Lmade_len : GlbN S_Lmade "len" := ⟨by decide +kernel, by decide +kernel, by decide +kernel, by decide +kernel⟩
theorem g_Lmade_Lodd : GlbN S_Lmade "_law_odd" := ⟨by decide +kernel, by decide +kernel, by decide +kernel, by decide +kernel⟩
theorem g_Lmade_list : GlbN S_Lmade "list" := ⟨by decide +kernel, by decide +kernel, by decide +kernel, by decide +kernel⟩
def st_Ltwin : Stmt := top 39
abbrev N_Ltwin : List Str := ["_law_thing", "_law_one"]
def S_Ltwin : SC := ⟨N_Ltwin, defScope st_Ltwin, fun _ => true, true, true⟩
theorem sc_Ltwin : FnScope N_Ltwin ["_law_thing"] (defScope st_Ltwin) := ⟨rfl, rfl, rfl, by decide +kernel, rfl, by decide +kernel, by decide +kernel⟩
theorem l_Ltwin_0 : LocN S_Ltwin "_law_thing" 0 := ⟨by decide +kernel, by decide +kernel, by decide +kernel⟩
theorem g_Ltwin_isinstance : GlbN S_Ltwin "isinstance" := ⟨by decide +kernel, by decide +kernel, by decide +kernel, by decide +kernel⟩
theorem g_Ltwin_tuple : GlbN S_Ltwin "tuple" := ⟨by decide +kernel, by decide +kernel, by decide +kernel, by decide +kernel⟩
theorem g_Ltwin_int : GlbN S_Ltwin "int" := ⟨by decide +kernel, by decide +kernel, by decide +kernel, by decide +kernel⟩
def st_Lsaid : Stmt := top 40
abbrev N_Lsaid : List Str := ["_law_thing", "_law_e", "_law_found", "error"]
def S_Lsaid : SC := ⟨N_Lsaid, defScope st_Lsaid, fun _ => true, true, true⟩
theorem sc_Lsaid : FnScope N_Lsaid ["_law_thing"] (defScope st_Lsaid) := ⟨rfl, rfl, rfl, by decide +kernel, rfl, by decide +kernel, by decide +kernel⟩
theorem l_Lsaid_0 : LocN S_Lsaid "_law_thing" 0 := ⟨by decide +kernel, by decide +kernel, by decide +kernel⟩
theorem l_Lsaid_1 : LocN S_Lsaid "_law_e" 1 := ⟨by decide +kernel, by decide +kernel, by decide +kernel⟩
theorem l_Lsaid_2 : LocN S_Lsaid "_law_found" 2 := ⟨by decide +kernel, by decide +kernel, by decide +kernel⟩
theorem l_Lsaid_3 : LocN S_Lsaid "error" 3 := ⟨by decide +kernel, by decide +kernel, by decide +kernel⟩
theorem g_Lsaid_need_taker : GlbN S_Lsaid "need_taker" := ⟨by decide +kernel, by decide +kernel, by decide +kernel, by decide +kernel⟩
theorem g_Lsaid_FlowError : GlbN S_Lsaid "FlowError" := ⟨by decide +kernel, by decide +kernel, by decide +kernel, by decide +kernel⟩
theorem g_Lsaid_isinstance : GlbN S_Lsaid "isinstance" := ⟨by decide +kernel, by decide +kernel, by decide +kernel, by decide +kernel⟩
theorem g_Lsaid_BadAnswer : GlbN S_Lsaid "BadAnswer" := ⟨by decide +kernel, by decide +kernel, by decide +kernel, by decide +kernel⟩
theorem g_Lsaid_BadAsked : GlbN S_Lsaid "BadAsked" := ⟨by decide +kernel, by decide +kernel, by decide +kernel, by decide +kernel⟩
theorem g_Lsaid_BadLimit : GlbN S_Lsaid "BadLimit" := ⟨by decide +kernel, by decide +kernel, by decide +kernel, by decide +kernel⟩
theorem g_Lsaid_BadLine : GlbN S_Lsaid "BadLine" := ⟨by decide +kernel, by decide +kernel, by decide +kernel, by decide +kernel⟩
theorem g_Lsaid_BadLoop : GlbN S_Lsaid "BadLoop" := ⟨by decide +kernel, by decide +kernel, by decide +kernel, by decide +kernel⟩
theorem g_Lsaid_BadNet : GlbN S_Lsaid "BadNet" := ⟨by decide +kernel, by decide +kernel, by decide +kernel, by decide +kernel⟩
theorem g_Lsaid_BadPlace : GlbN S_Lsaid "BadPlace" := ⟨by decide +kernel, by decide +kernel, by decide +kernel, by decide +kernel⟩
theorem g_Lsaid_BadRoom : GlbN S_Lsaid "BadRoom" := ⟨by decide +kernel, by decide +kernel, by decide +kernel, by decide +kernel⟩
theorem g_Lsaid_BadStory : GlbN S_Lsaid "BadStory" := ⟨by decide +kernel, by decide +kernel, by decide +kernel, by decide +kernel⟩
theorem g_Lsaid_BadText : GlbN S_Lsaid "BadText" := ⟨by decide +kernel, by decide +kernel, by decide +kernel, by decide +kernel⟩
theorem g_Lsaid_Over : GlbN S_Lsaid "Over" := ⟨by decide +kernel, by decide +kernel, by decide +kernel, by decide +kernel⟩
theorem g_Lsaid_TooMany : GlbN S_Lsaid "TooMany" := ⟨by decide +kernel, by decide +kernel, by decide +kernel, by decide +kernel⟩
theorem g_Lsaid_Unsound : GlbN S_Lsaid "Unsound" := ⟨by decide +kernel, by decide +kernel, by decide +kernel, by decide +kernel⟩
theorem g_Lsaid_BadTaker : GlbN S_Lsaid "BadTaker" := ⟨by decide +kernel, by decide +kernel, by decide +kernel, by decide +kernel⟩
def st_law : Stmt := top 41
abbrev N_law : List Str := ["_law_script", "_law_draw", "_law_k", "_law_one", "_law_thing", "_law_due", "_law_turn", "_law_found"]
def S_law : SC := ⟨N_law, defScope st_law, fun _ => true, true, true⟩
theorem sc_law : FnScope N_law ["_law_script"] (defScope st_law) := ⟨rfl, rfl, rfl, by decide +kernel, rfl, by decide +kernel, by decide +kernel⟩
theorem l_law_0 : LocN S_law "_law_script" 0 := ⟨by decide +kernel, by decide +kernel, by decide +kernel⟩
theorem l_law_1 : LocN S_law "_law_draw" 1 := ⟨by decide +kernel, by decide +kernel, by decide +kernel⟩
theorem l_law_2 : LocN S_law "_law_k" 2 := ⟨by decide +kernel, by decide +kernel, by decide +kernel⟩
theorem l_law_3 : LocN S_law "_law_one" 3 := ⟨by decide +kernel, by decide +kernel, by decide +kernel⟩
theorem l_law_4 : LocN S_law "_law_thing" 4 := ⟨by decide +kernel, by decide +kernel, by decide +kernel⟩
theorem l_law_5 : LocN S_law "_law_due" 5 := ⟨by decide +kernel, by decide +kernel, by decide +kernel⟩
theorem l_law_6 : LocN S_law "_law_turn" 6 := ⟨by decide +kernel, by decide +kernel, by decide +kernel⟩
theorem l_law_7 : LocN S_law "_law_found" 7 := ⟨by decide +kernel, by decide +kernel, by decide +kernel⟩
theorem g_law_Lbegin : GlbN S_law "_law_begin" := ⟨by decide +kernel, by decide +kernel, by decide +kernel, by decide +kernel⟩
theorem g_law_range : GlbN S_law "range" := ⟨by decide +kernel, by decide +kernel, by decide +kernel, by decide +kernel⟩
theorem g_law_min : GlbN S_law "min" := ⟨by decide +kernel, by decide +kernel, by decide +kernel, by decide +kernel⟩
theorem g_law_len : GlbN S_law "len" := ⟨by decide +kernel, by decide +kernel, by decide +kernel, by decide +kernel⟩
theorem g_law_Lmade : GlbN S_law "_law_made" := ⟨by decide +kernel, by decide +kernel, by decide +kernel, by decide +kernel⟩
theorem g_law_Ltwin : GlbN S_law "_law_twin" := ⟨by decide +kernel, by decide +kernel, by decide +kernel, by decide +kernel⟩
theorem g_law_Lodd : GlbN S_law "_law_odd" := ⟨by decide +kernel, by decide +kernel, by decide +kernel, by decide +kernel⟩
theorem g_law_Lis_so : GlbN S_law "_law_is_so" := ⟨by decide +kernel, by decide +kernel, by decide +kernel, by decide +kernel⟩
theorem g_law_is_taker : GlbN S_law "is_taker" := ⟨by decide +kernel, by decide +kernel, by decide +kernel, by decide +kernel⟩
theorem g_law_isinstance : GlbN S_law "isinstance" := ⟨by decide +kernel, by decide +kernel, by decide +kernel, by decide +kernel⟩
theorem g_law_bool : GlbN S_law "bool" := ⟨by decide +kernel, by decide +kernel, by decide +kernel, by decide +kernel⟩
theorem g_law_Lsaid : GlbN S_law "_law_said" := ⟨by decide +kernel, by decide +kernel, by decide +kernel, by decide +kernel⟩
theorem cm_is_whole : S_is_whole.calm = true := rfl
theorem x_is_whole_0 {w : Nat → WP} {n : Nat} {G : GE} {v : TV} {r : TSt} {H : TH} {E : TX} {Q : TQ} {p : Pos} (hw : Steps w) (h : Q v H) : (w (n + 1)).e S_is_whole G (.Name "thing" p) (some v :: r) H E Q := e_loc hw l_is_whole_0.v rfl h
theorem y_is_whole_0 {w : Nat → WP} {n : Nat} {G : GE} {o0 : Option TV} {r : TSt} {H : TH} {D : TEnds} {p q : Pos} {e : Expr} (hw : Steps w) (h : (w n).e S_is_whole G e (o0 :: r) H (fun x H1 => D.ex x (o0 :: r) H1) fun v H1 => D.nx (some v :: r) H1) (hc : isComp e = false := by decide +kernel) : (w (n + 1)).s S_is_whole G (.Assign [.Name "thing" p] e q) D (o0 :: r) H := s_asg' hw l_is_whole_0 h hc
theorem z_is_whole_0 {w : Nat → WP} {n : Nat} {G : GE} {o0 : Option TV} {r : TSt} {H : TH} {v : TV} {E : TX} {T : TSt → TH → Prop} {p : Pos} (hw : Steps w) (h : T (some v :: r) H) : (w (n + 1)).g S_is_whole G (.Name "thing" p) v (o0 :: r) H E T := g_nm hw l_is_whole_0 h
theorem x_is_whole_1 {w : Nat → WP} {n : Nat} {G : GE} {o0 : Option TV} {v : TV} {r : TSt} {H : TH} {E : TX} {Q : TQ} {p : Pos} (hw : Steps w) (h : Q v H) : (w (n + 1)).e S_is_whole G (.Name "least" p) (o0 :: some v :: r) H E Q := e_loc hw l_is_whole_1.v rfl h
theorem y_is_whole_1 {w : Nat → WP} {n : Nat} {G : GE} {o0 o1 : Option TV} {r : TSt} {H : TH} {D : TEnds} {p q : Pos} {e : Expr} (hw : Steps w) (h : (w n).e S_is_whole G e (o0 :: o1 :: r) H (fun x H1 => D.ex x (o0 :: o1 :: r) H1) fun v H1 => D.nx (o0 :: some v :: r) H1) (hc : isComp e = false := by decide +kernel) : (w (n + 1)).s S_is_whole G (.Assign [.Name "least" p] e q) D (o0 :: o1 :: r) H := s_asg' hw l_is_whole_1 h hc
theorem z_is_whole_1 {w : Nat → WP} {n : Nat} {G : GE} {o0 o1 : Option TV} {r : TSt} {H : TH} {v : TV} {E : TX} {T : TSt → TH → Prop} {p : Pos} (hw : Steps w) (h : T (o0 :: some v :: r) H) : (w (n + 1)).g S_is_whole G (.Name "least" p) v (o0 :: o1 :: r) H E T := g_nm hw l_is_whole_1 h
theorem x_is_whole_2 {w : Nat → WP} {n : Nat} {G : GE} {o0 o1 : Option TV} {v : TV} {r : TSt} {H : TH} {E : TX} {Q : TQ} {p : Pos} (hw : Steps w) (h : Q v H) : (w (n + 1)).e S_is_whole G (.Name "most" p) (o0 :: o1 :: some v :: r) H E Q := e_loc hw l_is_whole_2.v rfl h
theorem y_is_whole_2 {w : Nat → WP} {n : Nat} {G : GE} {o0 o1 o2 : Option TV} {r : TSt} {H : TH} {D : TEnds} {p q : Pos} {e : Expr} (hw : Steps w) (h : (w n).e S_is_whole G e (o0 :: o1 :: o2 :: r) H (fun x H1 => D.ex x (o0 :: o1 :: o2 :: r) H1) fun v H1 => D.nx (o0 :: o1 :: some v :: r) H1) (hc : isComp e = false := by decide +kernel) : (w (n + 1)).s S_is_whole G (.Assign [.Name "most" p] e q) D (o0 :: o1 :: o2 :: r) H := s_asg' hw l_is_whole_2 h hc
theorem z_is_whole_2 {w : Nat → WP} {n : Nat} {G : GE} {o0 o1 o2 : Option TV} {r : TSt} {H : TH} {v : TV} {E : TX} {T : TSt → TH → Prop} {p : Pos} (hw : Steps w) (h : T (o0 :: o1 :: some v :: r) H) : (w (n + 1)).g S_is_whole G (.Name "most" p) v (o0 :: o1 :: o2 :: r) H E T := g_nm hw l_is_whole_2 h
theorem cm_is_number : S_is_number.calm = true := rfl
theorem x_is_number_0 {w : Nat → WP} {n : Nat} {G : GE} {v : TV} {r : TSt} {H : TH} {E : TX} {Q : TQ} {p : Pos} (hw : Steps w) (h : Q v H) : (w (n + 1)).e S_is_number G (.Name "thing" p) (some v :: r) H E Q := e_loc hw l_is_number_0.v rfl h
theorem y_is_number_0 {w : Nat → WP} {n : Nat} {G : GE} {o0 : Option TV} {r : TSt} {H : TH} {D : TEnds} {p q : Pos} {e : Expr} (hw : Steps w) (h : (w n).e S_is_number G e (o0 :: r) H (fun x H1 => D.ex x (o0 :: r) H1) fun v H1 => D.nx (some v :: r) H1) (hc : isComp e = false := by decide +kernel) : (w (n + 1)).s S_is_number G (.Assign [.Name "thing" p] e q) D (o0 :: r) H := s_asg' hw l_is_number_0 h hc
theorem z_is_number_0 {w : Nat → WP} {n : Nat} {G : GE} {o0 : Option TV} {r : TSt} {H : TH} {v : TV} {E : TX} {T : TSt → TH → Prop} {p : Pos} (hw : Steps w) (h : T (some v :: r) H) : (w (n + 1)).g S_is_number G (.Name "thing" p) v (o0 :: r) H E T := g_nm hw l_is_number_0 h
theorem cm_is_word_of : S_is_word_of.calm = true := rfl
theorem x_is_word_of_0 {w : Nat → WP} {n : Nat} {G : GE} {v : TV} {r : TSt} {H : TH} {E : TX} {Q : TQ} {p : Pos} (hw : Steps w) (h : Q v H) : (w (n + 1)).e S_is_word_of G (.Name "thing" p) (some v :: r) H E Q := e_loc hw l_is_word_of_0.v rfl h
theorem y_is_word_of_0 {w : Nat → WP} {n : Nat} {G : GE} {o0 : Option TV} {r : TSt} {H : TH} {D : TEnds} {p q : Pos} {e : Expr} (hw : Steps w) (h : (w n).e S_is_word_of G e (o0 :: r) H (fun x H1 => D.ex x (o0 :: r) H1) fun v H1 => D.nx (some v :: r) H1) (hc : isComp e = false := by decide +kernel) : (w (n + 1)).s S_is_word_of G (.Assign [.Name "thing" p] e q) D (o0 :: r) H := s_asg' hw l_is_word_of_0 h hc
theorem z_is_word_of_0 {w : Nat → WP} {n : Nat} {G : GE} {o0 : Option TV} {r : TSt} {H : TH} {v : TV} {E : TX} {T : TSt → TH → Prop} {p : Pos} (hw : Steps w) (h : T (some v :: r) H) : (w (n + 1)).g S_is_word_of G (.Name "thing" p) v (o0 :: r) H E T := g_nm hw l_is_word_of_0 h
theorem x_is_word_of_1 {w : Nat → WP} {n : Nat} {G : GE} {o0 : Option TV} {v : TV} {r : TSt} {H : TH} {E : TX} {Q : TQ} {p : Pos} (hw : Steps w) (h : Q v H) : (w (n + 1)).e S_is_word_of G (.Name "words" p) (o0 :: some v :: r) H E Q := e_loc hw l_is_word_of_1.v rfl h
theorem y_is_word_of_1 {w : Nat → WP} {n : Nat} {G : GE} {o0 o1 : Option TV} {r : TSt} {H : TH} {D : TEnds} {p q : Pos} {e : Expr} (hw : Steps w) (h : (w n).e S_is_word_of G e (o0 :: o1 :: r) H (fun x H1 => D.ex x (o0 :: o1 :: r) H1) fun v H1 => D.nx (o0 :: some v :: r) H1) (hc : isComp e = false := by decide +kernel) : (w (n + 1)).s S_is_word_of G (.Assign [.Name "words" p] e q) D (o0 :: o1 :: r) H := s_asg' hw l_is_word_of_1 h hc
theorem z_is_word_of_1 {w : Nat → WP} {n : Nat} {G : GE} {o0 o1 : Option TV} {r : TSt} {H : TH} {v : TV} {E : TX} {T : TSt → TH → Prop} {p : Pos} (hw : Steps w) (h : T (o0 :: some v :: r) H) : (w (n + 1)).g S_is_word_of G (.Name "words" p) v (o0 :: o1 :: r) H E T := g_nm hw l_is_word_of_1 h
theorem cm_is_test : S_is_test.calm = true := rfl
theorem x_is_test_0 {w : Nat → WP} {n : Nat} {G : GE} {v : TV} {r : TSt} {H : TH} {E : TX} {Q : TQ} {p : Pos} (hw : Steps w) (h : Q v H) : (w (n + 1)).e S_is_test G (.Name "thing" p) (some v :: r) H E Q := e_loc hw l_is_test_0.v rfl h
theorem y_is_test_0 {w : Nat → WP} {n : Nat} {G : GE} {o0 : Option TV} {r : TSt} {H : TH} {D : TEnds} {p q : Pos} {e : Expr} (hw : Steps w) (h : (w n).e S_is_test G e (o0 :: r) H (fun x H1 => D.ex x (o0 :: r) H1) fun v H1 => D.nx (some v :: r) H1) (hc : isComp e = false := by decide +kernel) : (w (n + 1)).s S_is_test G (.Assign [.Name "thing" p] e q) D (o0 :: r) H := s_asg' hw l_is_test_0 h hc
theorem z_is_test_0 {w : Nat → WP} {n : Nat} {G : GE} {o0 : Option TV} {r : TSt} {H : TH} {v : TV} {E : TX} {T : TSt → TH → Prop} {p : Pos} (hw : Steps w) (h : T (some v :: r) H) : (w (n + 1)).g S_is_test G (.Name "thing" p) v (o0 :: r) H E T := g_nm hw l_is_test_0 h
theorem cm_is_op : S_is_op.calm = true := rfl
theorem x_is_op_0 {w : Nat → WP} {n : Nat} {G : GE} {v : TV} {r : TSt} {H : TH} {E : TX} {Q : TQ} {p : Pos} (hw : Steps w) (h : Q v H) : (w (n + 1)).e S_is_op G (.Name "thing" p) (some v :: r) H E Q := e_loc hw l_is_op_0.v rfl h
theorem y_is_op_0 {w : Nat → WP} {n : Nat} {G : GE} {o0 : Option TV} {r : TSt} {H : TH} {D : TEnds} {p q : Pos} {e : Expr} (hw : Steps w) (h : (w n).e S_is_op G e (o0 :: r) H (fun x H1 => D.ex x (o0 :: r) H1) fun v H1 => D.nx (some v :: r) H1) (hc : isComp e = false := by decide +kernel) : (w (n + 1)).s S_is_op G (.Assign [.Name "thing" p] e q) D (o0 :: r) H := s_asg' hw l_is_op_0 h hc
theorem z_is_op_0 {w : Nat → WP} {n : Nat} {G : GE} {o0 : Option TV} {r : TSt} {H : TH} {v : TV} {E : TX} {T : TSt → TH → Prop} {p : Pos} (hw : Steps w) (h : T (some v :: r) H) : (w (n + 1)).g S_is_op G (.Name "thing" p) v (o0 :: r) H E T := g_nm hw l_is_op_0 h
theorem cm_is_taker : S_is_taker.calm = true := rfl
theorem x_is_taker_0 {w : Nat → WP} {n : Nat} {G : GE} {v : TV} {r : TSt} {H : TH} {E : TX} {Q : TQ} {p : Pos} (hw : Steps w) (h : Q v H) : (w (n + 1)).e S_is_taker G (.Name "thing" p) (some v :: r) H E Q := e_loc hw l_is_taker_0.v rfl h
theorem y_is_taker_0 {w : Nat → WP} {n : Nat} {G : GE} {o0 : Option TV} {r : TSt} {H : TH} {D : TEnds} {p q : Pos} {e : Expr} (hw : Steps w) (h : (w n).e S_is_taker G e (o0 :: r) H (fun x H1 => D.ex x (o0 :: r) H1) fun v H1 => D.nx (some v :: r) H1) (hc : isComp e = false := by decide +kernel) : (w (n + 1)).s S_is_taker G (.Assign [.Name "thing" p] e q) D (o0 :: r) H := s_asg' hw l_is_taker_0 h hc
theorem z_is_taker_0 {w : Nat → WP} {n : Nat} {G : GE} {o0 : Option TV} {r : TSt} {H : TH} {v : TV} {E : TX} {T : TSt → TH → Prop} {p : Pos} (hw : Steps w) (h : T (some v :: r) H) : (w (n + 1)).g S_is_taker G (.Name "thing" p) v (o0 :: r) H E T := g_nm hw l_is_taker_0 h
theorem cm_need_taker : S_need_taker.calm = true := rfl
theorem x_need_taker_0 {w : Nat → WP} {n : Nat} {G : GE} {v : TV} {r : TSt} {H : TH} {E : TX} {Q : TQ} {p : Pos} (hw : Steps w) (h : Q v H) : (w (n + 1)).e S_need_taker G (.Name "thing" p) (some v :: r) H E Q := e_loc hw l_need_taker_0.v rfl h
theorem y_need_taker_0 {w : Nat → WP} {n : Nat} {G : GE} {o0 : Option TV} {r : TSt} {H : TH} {D : TEnds} {p q : Pos} {e : Expr} (hw : Steps w) (h : (w n).e S_need_taker G e (o0 :: r) H (fun x H1 => D.ex x (o0 :: r) H1) fun v H1 => D.nx (some v :: r) H1) (hc : isComp e = false := by decide +kernel) : (w (n + 1)).s S_need_taker G (.Assign [.Name "thing" p] e q) D (o0 :: r) H := s_asg' hw l_need_taker_0 h hc
theorem z_need_taker_0 {w : Nat → WP} {n : Nat} {G : GE} {o0 : Option TV} {r : TSt} {H : TH} {v : TV} {E : TX} {T : TSt → TH → Prop} {p : Pos} (hw : Steps w) (h : T (some v :: r) H) : (w (n + 1)).g S_need_taker G (.Name "thing" p) v (o0 :: r) H E T := g_nm hw l_need_taker_0 h
theorem cm_Lbegin : S_Lbegin.calm = true := rfl
theorem x_Lbegin_0 {w : Nat → WP} {n : Nat} {G : GE} {v : TV} {r : TSt} {H : TH} {E : TX} {Q : TQ} {p : Pos} (hw : Steps w) (h : Q v H) : (w (n + 1)).e S_Lbegin G (.Name "_law_script" p) (some v :: r) H E Q := e_loc hw l_Lbegin_0.v rfl h
theorem y_Lbegin_0 {w : Nat → WP} {n : Nat} {G : GE} {o0 : Option TV} {r : TSt} {H : TH} {D : TEnds} {p q : Pos} {e : Expr} (hw : Steps w) (h : (w n).e S_Lbegin G e (o0 :: r) H (fun x H1 => D.ex x (o0 :: r) H1) fun v H1 => D.nx (some v :: r) H1) (hc : isComp e = false := by decide +kernel) : (w (n + 1)).s S_Lbegin G (.Assign [.Name "_law_script" p] e q) D (o0 :: r) H := s_asg' hw l_Lbegin_0 h hc
theorem z_Lbegin_0 {w : Nat → WP} {n : Nat} {G : GE} {o0 : Option TV} {r : TSt} {H : TH} {v : TV} {E : TX} {T : TSt → TH → Prop} {p : Pos} (hw : Steps w) (h : T (some v :: r) H) : (w (n + 1)).g S_Lbegin G (.Name "_law_script" p) v (o0 :: r) H E T := g_nm hw l_Lbegin_0 h
theorem cm_Lmixed : S_Lmixed.calm = true := rfl
theorem x_Lmixed_0 {w : Nat → WP} {n : Nat} {G : GE} {v : TV} {r : TSt} {H : TH} {E : TX} {Q : TQ} {p : Pos} (hw : Steps w) (h : Q v H) : (w (n + 1)).e S_Lmixed G (.Name "_law_cell" p) (some v :: r) H E Q := e_loc hw l_Lmixed_0.v rfl h
theorem y_Lmixed_0 {w : Nat → WP} {n : Nat} {G : GE} {o0 : Option TV} {r : TSt} {H : TH} {D : TEnds} {p q : Pos} {e : Expr} (hw : Steps w) (h : (w n).e S_Lmixed G e (o0 :: r) H (fun x H1 => D.ex x (o0 :: r) H1) fun v H1 => D.nx (some v :: r) H1) (hc : isComp e = false := by decide +kernel) : (w (n + 1)).s S_Lmixed G (.Assign [.Name "_law_cell" p] e q) D (o0 :: r) H := s_asg' hw l_Lmixed_0 h hc
theorem z_Lmixed_0 {w : Nat → WP} {n : Nat} {G : GE} {o0 : Option TV} {r : TSt} {H : TH} {v : TV} {E : TX} {T : TSt → TH → Prop} {p : Pos} (hw : Steps w) (h : T (some v :: r) H) : (w (n + 1)).g S_Lmixed G (.Name "_law_cell" p) v (o0 :: r) H E T := g_nm hw l_Lmixed_0 h
theorem x_Lmixed_1 {w : Nat → WP} {n : Nat} {G : GE} {o0 : Option TV} {v : TV} {r : TSt} {H : TH} {E : TX} {Q : TQ} {p : Pos} (hw : Steps w) (h : Q v H) : (w (n + 1)).e S_Lmixed G (.Name "_law_k" p) (o0 :: some v :: r) H E Q := e_loc hw l_Lmixed_1.v rfl h
theorem y_Lmixed_1 {w : Nat → WP} {n : Nat} {G : GE} {o0 o1 : Option TV} {r : TSt} {H : TH} {D : TEnds} {p q : Pos} {e : Expr} (hw : Steps w) (h : (w n).e S_Lmixed G e (o0 :: o1 :: r) H (fun x H1 => D.ex x (o0 :: o1 :: r) H1) fun v H1 => D.nx (o0 :: some v :: r) H1) (hc : isComp e = false := by decide +kernel) : (w (n + 1)).s S_Lmixed G (.Assign [.Name "_law_k" p] e q) D (o0 :: o1 :: r) H := s_asg' hw l_Lmixed_1 h hc
theorem z_Lmixed_1 {w : Nat → WP} {n : Nat} {G : GE} {o0 o1 : Option TV} {r : TSt} {H : TH} {v : TV} {E : TX} {T : TSt → TH → Prop} {p : Pos} (hw : Steps w) (h : T (o0 :: some v :: r) H) : (w (n + 1)).g S_Lmixed G (.Name "_law_k" p) v (o0 :: o1 :: r) H E T := g_nm hw l_Lmixed_1 h
theorem x_Lmixed_2 {w : Nat → WP} {n : Nat} {G : GE} {o0 o1 : Option TV} {v : TV} {r : TSt} {H : TH} {E : TX} {Q : TQ} {p : Pos} (hw : Steps w) (h : Q v H) : (w (n + 1)).e S_Lmixed G (.Name "_law_number" p) (o0 :: o1 :: some v :: r) H E Q := e_loc hw l_Lmixed_2.v rfl h
theorem y_Lmixed_2 {w : Nat → WP} {n : Nat} {G : GE} {o0 o1 o2 : Option TV} {r : TSt} {H : TH} {D : TEnds} {p q : Pos} {e : Expr} (hw : Steps w) (h : (w n).e S_Lmixed G e (o0 :: o1 :: o2 :: r) H (fun x H1 => D.ex x (o0 :: o1 :: o2 :: r) H1) fun v H1 => D.nx (o0 :: o1 :: some v :: r) H1) (hc : isComp e = false := by decide +kernel) : (w (n + 1)).s S_Lmixed G (.Assign [.Name "_law_number" p] e q) D (o0 :: o1 :: o2 :: r) H := s_asg' hw l_Lmixed_2 h hc
theorem z_Lmixed_2 {w : Nat → WP} {n : Nat} {G : GE} {o0 o1 o2 : Option TV} {r : TSt} {H : TH} {v : TV} {E : TX} {T : TSt → TH → Prop} {p : Pos} (hw : Steps w) (h : T (o0 :: o1 :: some v :: r) H) : (w (n + 1)).g S_Lmixed G (.Name "_law_number" p) v (o0 :: o1 :: o2 :: r) H E T := g_nm hw l_Lmixed_2 h
theorem cm_Lnext : S_Lnext.calm = true := rfl
theorem x_Lnext_0 {w : Nat → WP} {n : Nat} {G : GE} {v : TV} {r : TSt} {H : TH} {E : TX} {Q : TQ} {p : Pos} (hw : Steps w) (h : Q v H) : (w (n + 1)).e S_Lnext G (.Name "_law_draw" p) (some v :: r) H E Q := e_loc hw l_Lnext_0.v rfl h
theorem y_Lnext_0 {w : Nat → WP} {n : Nat} {G : GE} {o0 : Option TV} {r : TSt} {H : TH} {D : TEnds} {p q : Pos} {e : Expr} (hw : Steps w) (h : (w n).e S_Lnext G e (o0 :: r) H (fun x H1 => D.ex x (o0 :: r) H1) fun v H1 => D.nx (some v :: r) H1) (hc : isComp e = false := by decide +kernel) : (w (n + 1)).s S_Lnext G (.Assign [.Name "_law_draw" p] e q) D (o0 :: r) H := s_asg' hw l_Lnext_0 h hc
theorem z_Lnext_0 {w : Nat → WP} {n : Nat} {G : GE} {o0 : Option TV} {r : TSt} {H : TH} {v : TV} {E : TX} {T : TSt → TH → Prop} {p : Pos} (hw : Steps w) (h : T (some v :: r) H) : (w (n + 1)).g S_Lnext G (.Name "_law_draw" p) v (o0 :: r) H E T := g_nm hw l_Lnext_0 h
theorem x_Lnext_1 {w : Nat → WP} {n : Nat} {G : GE} {o0 : Option TV} {v : TV} {r : TSt} {H : TH} {E : TX} {Q : TQ} {p : Pos} (hw : Steps w) (h : Q v H) : (w (n + 1)).e S_Lnext G (.Name "_law_many" p) (o0 :: some v :: r) H E Q := e_loc hw l_Lnext_1.v rfl h
theorem y_Lnext_1 {w : Nat → WP} {n : Nat} {G : GE} {o0 o1 : Option TV} {r : TSt} {H : TH} {D : TEnds} {p q : Pos} {e : Expr} (hw : Steps w) (h : (w n).e S_Lnext G e (o0 :: o1 :: r) H (fun x H1 => D.ex x (o0 :: o1 :: r) H1) fun v H1 => D.nx (o0 :: some v :: r) H1) (hc : isComp e = false := by decide +kernel) : (w (n + 1)).s S_Lnext G (.Assign [.Name "_law_many" p] e q) D (o0 :: o1 :: r) H := s_asg' hw l_Lnext_1 h hc
theorem z_Lnext_1 {w : Nat → WP} {n : Nat} {G : GE} {o0 o1 : Option TV} {r : TSt} {H : TH} {v : TV} {E : TX} {T : TSt → TH → Prop} {p : Pos} (hw : Steps w) (h : T (o0 :: some v :: r) H) : (w (n + 1)).g S_Lnext G (.Name "_law_many" p) v (o0 :: o1 :: r) H E T := g_nm hw l_Lnext_1 h
theorem x_Lnext_2 {w : Nat → WP} {n : Nat} {G : GE} {o0 o1 : Option TV} {v : TV} {r : TSt} {H : TH} {E : TX} {Q : TQ} {p : Pos} (hw : Steps w) (h : Q v H) : (w (n + 1)).e S_Lnext G (.Name "_law_found" p) (o0 :: o1 :: some v :: r) H E Q := e_loc hw l_Lnext_2.v rfl h
theorem y_Lnext_2 {w : Nat → WP} {n : Nat} {G : GE} {o0 o1 o2 : Option TV} {r : TSt} {H : TH} {D : TEnds} {p q : Pos} {e : Expr} (hw : Steps w) (h : (w n).e S_Lnext G e (o0 :: o1 :: o2 :: r) H (fun x H1 => D.ex x (o0 :: o1 :: o2 :: r) H1) fun v H1 => D.nx (o0 :: o1 :: some v :: r) H1) (hc : isComp e = false := by decide +kernel) : (w (n + 1)).s S_Lnext G (.Assign [.Name "_law_found" p] e q) D (o0 :: o1 :: o2 :: r) H := s_asg' hw l_Lnext_2 h hc
theorem z_Lnext_2 {w : Nat → WP} {n : Nat} {G : GE} {o0 o1 o2 : Option TV} {r : TSt} {H : TH} {v : TV} {E : TX} {T : TSt → TH → Prop} {p : Pos} (hw : Steps w) (h : T (o0 :: o1 :: some v :: r) H) : (w (n + 1)).g S_Lnext G (.Name "_law_found" p) v (o0 :: o1 :: o2 :: r) H E T := g_nm hw l_Lnext_2 h
theorem x_Lnext_3 {w : Nat → WP} {n : Nat} {G : GE} {o0 o1 o2 : Option TV} {v : TV} {r : TSt} {H : TH} {E : TX} {Q : TQ} {p : Pos} (hw : Steps w) (h : Q v H) : (w (n + 1)).e S_Lnext G (.Name "_law_cells" p) (o0 :: o1 :: o2 :: some v :: r) H E Q := e_loc hw l_Lnext_3.v rfl h
theorem y_Lnext_3 {w : Nat → WP} {n : Nat} {G : GE} {o0 o1 o2 o3 : Option TV} {r : TSt} {H : TH} {D : TEnds} {p q : Pos} {e : Expr} (hw : Steps w) (h : (w n).e S_Lnext G e (o0 :: o1 :: o2 :: o3 :: r) H (fun x H1 => D.ex x (o0 :: o1 :: o2 :: o3 :: r) H1) fun v H1 => D.nx (o0 :: o1 :: o2 :: some v :: r) H1) (hc : isComp e = false := by decide +kernel) : (w (n + 1)).s S_Lnext G (.Assign [.Name "_law_cells" p] e q) D (o0 :: o1 :: o2 :: o3 :: r) H := s_asg' hw l_Lnext_3 h hc
theorem z_Lnext_3 {w : Nat → WP} {n : Nat} {G : GE} {o0 o1 o2 o3 : Option TV} {r : TSt} {H : TH} {v : TV} {E : TX} {T : TSt → TH → Prop} {p : Pos} (hw : Steps w) (h : T (o0 :: o1 :: o2 :: some v :: r) H) : (w (n + 1)).g S_Lnext G (.Name "_law_cells" p) v (o0 :: o1 :: o2 :: o3 :: r) H E T := g_nm hw l_Lnext_3 h
theorem x_Lnext_4 {w : Nat → WP} {n : Nat} {G : GE} {o0 o1 o2 o3 : Option TV} {v : TV} {r : TSt} {H : TH} {E : TX} {Q : TQ} {p : Pos} (hw : Steps w) (h : Q v H) : (w (n + 1)).e S_Lnext G (.Name "_law_cell" p) (o0 :: o1 :: o2 :: o3 :: some v :: r) H E Q := e_loc hw l_Lnext_4.v rfl h
theorem y_Lnext_4 {w : Nat → WP} {n : Nat} {G : GE} {o0 o1 o2 o3 o4 : Option TV} {r : TSt} {H : TH} {D : TEnds} {p q : Pos} {e : Expr} (hw : Steps w) (h : (w n).e S_Lnext G e (o0 :: o1 :: o2 :: o3 :: o4 :: r) H (fun x H1 => D.ex x (o0 :: o1 :: o2 :: o3 :: o4 :: r) H1) fun v H1 => D.nx (o0 :: o1 :: o2 :: o3 :: some v :: r) H1) (hc : isComp e = false := by decide +kernel) : (w (n + 1)).s S_Lnext G (.Assign [.Name "_law_cell" p] e q) D (o0 :: o1 :: o2 :: o3 :: o4 :: r) H := s_asg' hw l_Lnext_4 h hc
theorem z_Lnext_4 {w : Nat → WP} {n : Nat} {G : GE} {o0 o1 o2 o3 o4 : Option TV} {r : TSt} {H : TH} {v : TV} {E : TX} {T : TSt → TH → Prop} {p : Pos} (hw : Steps w) (h : T (o0 :: o1 :: o2 :: o3 :: some v :: r) H) : (w (n + 1)).g S_Lnext G (.Name "_law_cell" p) v (o0 :: o1 :: o2 :: o3 :: o4 :: r) H E T := g_nm hw l_Lnext_4 h
theorem cm_Lis_within : S_Lis_within.calm = true := rfl
theorem x_Lis_within_0 {w : Nat → WP} {n : Nat} {G : GE} {v : TV} {r : TSt} {H : TH} {E : TX} {Q : TQ} {p : Pos} (hw : Steps w) (h : Q v H) : (w (n + 1)).e S_Lis_within G (.Name "_law_thing" p) (some v :: r) H E Q := e_loc hw l_Lis_within_0.v rfl h
theorem y_Lis_within_0 {w : Nat → WP} {n : Nat} {G : GE} {o0 : Option TV} {r : TSt} {H : TH} {D : TEnds} {p q : Pos} {e : Expr} (hw : Steps w) (h : (w n).e S_Lis_within G e (o0 :: r) H (fun x H1 => D.ex x (o0 :: r) H1) fun v H1 => D.nx (some v :: r) H1) (hc : isComp e = false := by decide +kernel) : (w (n + 1)).s S_Lis_within G (.Assign [.Name "_law_thing" p] e q) D (o0 :: r) H := s_asg' hw l_Lis_within_0 h hc
theorem z_Lis_within_0 {w : Nat → WP} {n : Nat} {G : GE} {o0 : Option TV} {r : TSt} {H : TH} {v : TV} {E : TX} {T : TSt → TH → Prop} {p : Pos} (hw : Steps w) (h : T (some v :: r) H) : (w (n + 1)).g S_Lis_within G (.Name "_law_thing" p) v (o0 :: r) H E T := g_nm hw l_Lis_within_0 h
theorem x_Lis_within_1 {w : Nat → WP} {n : Nat} {G : GE} {o0 : Option TV} {v : TV} {r : TSt} {H : TH} {E : TX} {Q : TQ} {p : Pos} (hw : Steps w) (h : Q v H) : (w (n + 1)).e S_Lis_within G (.Name "_law_least" p) (o0 :: some v :: r) H E Q := e_loc hw l_Lis_within_1.v rfl h
theorem y_Lis_within_1 {w : Nat → WP} {n : Nat} {G : GE} {o0 o1 : Option TV} {r : TSt} {H : TH} {D : TEnds} {p q : Pos} {e : Expr} (hw : Steps w) (h : (w n).e S_Lis_within G e (o0 :: o1 :: r) H (fun x H1 => D.ex x (o0 :: o1 :: r) H1) fun v H1 => D.nx (o0 :: some v :: r) H1) (hc : isComp e = false := by decide +kernel) : (w (n + 1)).s S_Lis_within G (.Assign [.Name "_law_least" p] e q) D (o0 :: o1 :: r) H := s_asg' hw l_Lis_within_1 h hc
theorem z_Lis_within_1 {w : Nat → WP} {n : Nat} {G : GE} {o0 o1 : Option TV} {r : TSt} {H : TH} {v : TV} {E : TX} {T : TSt → TH → Prop} {p : Pos} (hw : Steps w) (h : T (o0 :: some v :: r) H) : (w (n + 1)).g S_Lis_within G (.Name "_law_least" p) v (o0 :: o1 :: r) H E T := g_nm hw l_Lis_within_1 h
theorem x_Lis_within_2 {w : Nat → WP} {n : Nat} {G : GE} {o0 o1 : Option TV} {v : TV} {r : TSt} {H : TH} {E : TX} {Q : TQ} {p : Pos} (hw : Steps w) (h : Q v H) : (w (n + 1)).e S_Lis_within G (.Name "_law_most" p) (o0 :: o1 :: some v :: r) H E Q := e_loc hw l_Lis_within_2.v rfl h
theorem y_Lis_within_2 {w : Nat → WP} {n : Nat} {G : GE} {o0 o1 o2 : Option TV} {r : TSt} {H : TH} {D : TEnds} {p q : Pos} {e : Expr} (hw : Steps w) (h : (w n).e S_Lis_within G e (o0 :: o1 :: o2 :: r) H (fun x H1 => D.ex x (o0 :: o1 :: o2 :: r) H1) fun v H1 => D.nx (o0 :: o1 :: some v :: r) H1) (hc : isComp e = false := by decide +kernel) : (w (n + 1)).s S_Lis_within G (.Assign [.Name "_law_most" p] e q) D (o0 :: o1 :: o2 :: r) H := s_asg' hw l_Lis_within_2 h hc
theorem z_Lis_within_2 {w : Nat → WP} {n : Nat} {G : GE} {o0 o1 o2 : Option TV} {r : TSt} {H : TH} {v : TV} {E : TX} {T : TSt → TH → Prop} {p : Pos} (hw : Steps w) (h : T (o0 :: o1 :: some v :: r) H) : (w (n + 1)).g S_Lis_within G (.Name "_law_most" p) v (o0 :: o1 :: o2 :: r) H E T := g_nm hw l_Lis_within_2 h
theorem cm_Lis_test : S_Lis_test.calm = true := rfl
theorem x_Lis_test_0 {w : Nat → WP} {n : Nat} {G : GE} {v : TV} {r : TSt} {H : TH} {E : TX} {Q : TQ} {p : Pos} (hw : Steps w) (h : Q v H) : (w (n + 1)).e S_Lis_test G (.Name "_law_thing" p) (some v :: r) H E Q := e_loc hw l_Lis_test_0.v rfl h
theorem y_Lis_test_0 {w : Nat → WP} {n : Nat} {G : GE} {o0 : Option TV} {r : TSt} {H : TH} {D : TEnds} {p q : Pos} {e : Expr} (hw : Steps w) (h : (w n).e S_Lis_test G e (o0 :: r) H (fun x H1 => D.ex x (o0 :: r) H1) fun v H1 => D.nx (some v :: r) H1) (hc : isComp e = false := by decide +kernel) : (w (n + 1)).s S_Lis_test G (.Assign [.Name "_law_thing" p] e q) D (o0 :: r) H := s_asg' hw l_Lis_test_0 h hc
theorem z_Lis_test_0 {w : Nat → WP} {n : Nat} {G : GE} {o0 : Option TV} {r : TSt} {H : TH} {v : TV} {E : TX} {T : TSt → TH → Prop} {p : Pos} (hw : Steps w) (h : T (some v :: r) H) : (w (n + 1)).g S_Lis_test G (.Name "_law_thing" p) v (o0 :: r) H E T := g_nm hw l_Lis_test_0 h
theorem cm_Lis_so : S_Lis_so.calm = true := rfl
theorem x_Lis_so_0 {w : Nat → WP} {n : Nat} {G : GE} {v : TV} {r : TSt} {H : TH} {E : TX} {Q : TQ} {p : Pos} (hw : Steps w) (h : Q v H) : (w (n + 1)).e S_Lis_so G (.Name "_law_thing" p) (some v :: r) H E Q := e_loc hw l_Lis_so_0.v rfl h
theorem y_Lis_so_0 {w : Nat → WP} {n : Nat} {G : GE} {o0 : Option TV} {r : TSt} {H : TH} {D : TEnds} {p q : Pos} {e : Expr} (hw : Steps w) (h : (w n).e S_Lis_so G e (o0 :: r) H (fun x H1 => D.ex x (o0 :: r) H1) fun v H1 => D.nx (some v :: r) H1) (hc : isComp e = false := by decide +kernel) : (w (n + 1)).s S_Lis_so G (.Assign [.Name "_law_thing" p] e q) D (o0 :: r) H := s_asg' hw l_Lis_so_0 h hc
theorem z_Lis_so_0 {w : Nat → WP} {n : Nat} {G : GE} {o0 : Option TV} {r : TSt} {H : TH} {v : TV} {E : TX} {T : TSt → TH → Prop} {p : Pos} (hw : Steps w) (h : T (some v :: r) H) : (w (n + 1)).g S_Lis_so G (.Name "_law_thing" p) v (o0 :: r) H E T := g_nm hw l_Lis_so_0 h
theorem x_Lis_so_1 {w : Nat → WP} {n : Nat} {G : GE} {o0 : Option TV} {v : TV} {r : TSt} {H : TH} {E : TX} {Q : TQ} {p : Pos} (hw : Steps w) (h : Q v H) : (w (n + 1)).e S_Lis_so G (.Name "_law_good" p) (o0 :: some v :: r) H E Q := e_loc hw l_Lis_so_1.v rfl h
theorem y_Lis_so_1 {w : Nat → WP} {n : Nat} {G : GE} {o0 o1 : Option TV} {r : TSt} {H : TH} {D : TEnds} {p q : Pos} {e : Expr} (hw : Steps w) (h : (w n).e S_Lis_so G e (o0 :: o1 :: r) H (fun x H1 => D.ex x (o0 :: o1 :: r) H1) fun v H1 => D.nx (o0 :: some v :: r) H1) (hc : isComp e = false := by decide +kernel) : (w (n + 1)).s S_Lis_so G (.Assign [.Name "_law_good" p] e q) D (o0 :: o1 :: r) H := s_asg' hw l_Lis_so_1 h hc
theorem z_Lis_so_1 {w : Nat → WP} {n : Nat} {G : GE} {o0 o1 : Option TV} {r : TSt} {H : TH} {v : TV} {E : TX} {T : TSt → TH → Prop} {p : Pos} (hw : Steps w) (h : T (o0 :: some v :: r) H) : (w (n + 1)).g S_Lis_so G (.Name "_law_good" p) v (o0 :: o1 :: r) H E T := g_nm hw l_Lis_so_1 h
theorem cm_Lodd : S_Lodd.calm = true := rfl
theorem x_Lodd_0 {w : Nat → WP} {n : Nat} {G : GE} {v : TV} {r : TSt} {H : TH} {E : TX} {Q : TQ} {p : Pos} (hw : Steps w) (h : Q v H) : (w (n + 1)).e S_Lodd G (.Name "_law_draw" p) (some v :: r) H E Q := e_loc hw l_Lodd_0.v rfl h
theorem y_Lodd_0 {w : Nat → WP} {n : Nat} {G : GE} {o0 : Option TV} {r : TSt} {H : TH} {D : TEnds} {p q : Pos} {e : Expr} (hw : Steps w) (h : (w n).e S_Lodd G e (o0 :: r) H (fun x H1 => D.ex x (o0 :: r) H1) fun v H1 => D.nx (some v :: r) H1) (hc : isComp e = false := by decide +kernel) : (w (n + 1)).s S_Lodd G (.Assign [.Name "_law_draw" p] e q) D (o0 :: r) H := s_asg' hw l_Lodd_0 h hc
theorem z_Lodd_0 {w : Nat → WP} {n : Nat} {G : GE} {o0 : Option TV} {r : TSt} {H : TH} {v : TV} {E : TX} {T : TSt → TH → Prop} {p : Pos} (hw : Steps w) (h : T (some v :: r) H) : (w (n + 1)).g S_Lodd G (.Name "_law_draw" p) v (o0 :: r) H E T := g_nm hw l_Lodd_0 h
theorem x_Lodd_1 {w : Nat → WP} {n : Nat} {G : GE} {o0 : Option TV} {v : TV} {r : TSt} {H : TH} {E : TX} {Q : TQ} {p : Pos} (hw : Steps w) (h : Q v H) : (w (n + 1)).e S_Lodd G (.Name "_law_some" p) (o0 :: some v :: r) H E Q := e_loc hw l_Lodd_1.v rfl h
theorem y_Lodd_1 {w : Nat → WP} {n : Nat} {G : GE} {o0 o1 : Option TV} {r : TSt} {H : TH} {D : TEnds} {p q : Pos} {e : Expr} (hw : Steps w) (h : (w n).e S_Lodd G e (o0 :: o1 :: r) H (fun x H1 => D.ex x (o0 :: o1 :: r) H1) fun v H1 => D.nx (o0 :: some v :: r) H1) (hc : isComp e = false := by decide +kernel) : (w (n + 1)).s S_Lodd G (.Assign [.Name "_law_some" p] e q) D (o0 :: o1 :: r) H := s_asg' hw l_Lodd_1 h hc
theorem z_Lodd_1 {w : Nat → WP} {n : Nat} {G : GE} {o0 o1 : Option TV} {r : TSt} {H : TH} {v : TV} {E : TX} {T : TSt → TH → Prop} {p : Pos} (hw : Steps w) (h : T (o0 :: some v :: r) H) : (w (n + 1)).g S_Lodd G (.Name "_law_some" p) v (o0 :: o1 :: r) H E T := g_nm hw l_Lodd_1 h
theorem cm_Lmade : S_Lmade.calm = true := rfl
theorem x_Lmade_0 {w : Nat → WP} {n : Nat} {G : GE} {v : TV} {r : TSt} {H : TH} {E : TX} {Q : TQ} {p : Pos} (hw : Steps w) (h : Q v H) : (w (n + 1)).e S_Lmade G (.Name "_law_draw" p) (some v :: r) H E Q := e_loc hw l_Lmade_0.v rfl h
theorem y_Lmade_0 {w : Nat → WP} {n : Nat} {G : GE} {o0 : Option TV} {r : TSt} {H : TH} {D : TEnds} {p q : Pos} {e : Expr} (hw : Steps w) (h : (w n).e S_Lmade G e (o0 :: r) H (fun x H1 => D.ex x (o0 :: r) H1) fun v H1 => D.nx (some v :: r) H1) (hc : isComp e = false := by decide +kernel) : (w (n + 1)).s S_Lmade G (.Assign [.Name "_law_draw" p] e q) D (o0 :: r) H := s_asg' hw l_Lmade_0 h hc
theorem z_Lmade_0 {w : Nat → WP} {n : Nat} {G : GE} {o0 : Option TV} {r : TSt} {H : TH} {v : TV} {E : TX} {T : TSt → TH → Prop} {p : Pos} (hw : Steps w) (h : T (some v :: r) H) : (w (n + 1)).g S_Lmade G (.Name "_law_draw" p) v (o0 :: r) H E T := g_nm hw l_Lmade_0 h
theorem x_Lmade_1 {w : Nat → WP} {n : Nat} {G : GE} {o0 : Option TV} {v : TV} {r : TSt} {H : TH} {E : TX} {Q : TQ} {p : Pos} (hw : Steps w) (h : Q v H) : (w (n + 1)).e S_Lmade G (.Name "_law_number" p) (o0 :: some v :: r) H E Q := e_loc hw l_Lmade_1.v rfl h
theorem y_Lmade_1 {w : Nat → WP} {n : Nat} {G : GE} {o0 o1 : Option TV} {r : TSt} {H : TH} {D : TEnds} {p q : Pos} {e : Expr} (hw : Steps w) (h : (w n).e S_Lmade G e (o0 :: o1 :: r) H (fun x H1 => D.ex x (o0 :: o1 :: r) H1) fun v H1 => D.nx (o0 :: some v :: r) H1) (hc : isComp e = false := by decide +kernel) : (w (n + 1)).s S_Lmade G (.Assign [.Name "_law_number" p] e q) D (o0 :: o1 :: r) H := s_asg' hw l_Lmade_1 h hc
theorem z_Lmade_1 {w : Nat → WP} {n : Nat} {G : GE} {o0 o1 : Option TV} {r : TSt} {H : TH} {v : TV} {E : TX} {T : TSt → TH → Prop} {p : Pos} (hw : Steps w) (h : T (o0 :: some v :: r) H) : (w (n + 1)).g S_Lmade G (.Name "_law_number" p) v (o0 :: o1 :: r) H E T := g_nm hw l_Lmade_1 h
theorem x_Lmade_2 {w : Nat → WP} {n : Nat} {G : GE} {o0 o1 : Option TV} {v : TV} {r : TSt} {H : TH} {E : TX} {Q : TQ} {p : Pos} (hw : Steps w) (h : Q v H) : (w (n + 1)).e S_Lmade G (.Name "_law_tests" p) (o0 :: o1 :: some v :: r) H E Q := e_loc hw l_Lmade_2.v rfl h
theorem y_Lmade_2 {w : Nat → WP} {n : Nat} {G : GE} {o0 o1 o2 : Option TV} {r : TSt} {H : TH} {D : TEnds} {p q : Pos} {e : Expr} (hw : Steps w) (h : (w n).e S_Lmade G e (o0 :: o1 :: o2 :: r) H (fun x H1 => D.ex x (o0 :: o1 :: o2 :: r) H1) fun v H1 => D.nx (o0 :: o1 :: some v :: r) H1) (hc : isComp e = false := by decide +kernel) : (w (n + 1)).s S_Lmade G (.Assign [.Name "_law_tests" p] e q) D (o0 :: o1 :: o2 :: r) H := s_asg' hw l_Lmade_2 h hc
theorem z_Lmade_2 {w : Nat → WP} {n : Nat} {G : GE} {o0 o1 o2 : Option TV} {r : TSt} {H : TH} {v : TV} {E : TX} {T : TSt → TH → Prop} {p : Pos} (hw : Steps w) (h : T (o0 :: o1 :: some v :: r) H) : (w (n + 1)).g S_Lmade G (.Name "_law_tests" p) v (o0 :: o1 :: o2 :: r) H E T := g_nm hw l_Lmade_2 h
theorem x_Lmade_3 {w : Nat → WP} {n : Nat} {G : GE} {o0 o1 o2 : Option TV} {v : TV} {r : TSt} {H : TH} {E : TX} {Q : TQ} {p : Pos} (hw : Steps w) (h : Q v H) : (w (n + 1)).e S_Lmade G (.Name "_law_ops" p) (o0 :: o1 :: o2 :: some v :: r) H E Q := e_loc hw l_Lmade_3.v rfl h
theorem y_Lmade_3 {w : Nat → WP} {n : Nat} {G : GE} {o0 o1 o2 o3 : Option TV} {r : TSt} {H : TH} {D : TEnds} {p q : Pos} {e : Expr} (hw : Steps w) (h : (w n).e S_Lmade G e (o0 :: o1 :: o2 :: o3 :: r) H (fun x H1 => D.ex x (o0 :: o1 :: o2 :: o3 :: r) H1) fun v H1 => D.nx (o0 :: o1 :: o2 :: some v :: r) H1) (hc : isComp e = false := by decide +kernel) : (w (n + 1)).s S_Lmade G (.Assign [.Name "_law_ops" p] e q) D (o0 :: o1 :: o2 :: o3 :: r) H := s_asg' hw l_Lmade_3 h hc
theorem z_Lmade_3 {w : Nat → WP} {n : Nat} {G : GE} {o0 o1 o2 o3 : Option TV} {r : TSt} {H : TH} {v : TV} {E : TX} {T : TSt → TH → Prop} {p : Pos} (hw : Steps w) (h : T (o0 :: o1 :: o2 :: some v :: r) H) : (w (n + 1)).g S_Lmade G (.Name "_law_ops" p) v (o0 :: o1 :: o2 :: o3 :: r) H E T := g_nm hw l_Lmade_3 h
theorem x_Lmade_4 {w : Nat → WP} {n : Nat} {G : GE} {o0 o1 o2 o3 : Option TV} {v : TV} {r : TSt} {H : TH} {E : TX} {Q : TQ} {p : Pos} (hw : Steps w) (h : Q v H) : (w (n + 1)).e S_Lmade G (.Name "_law_some" p) (o0 :: o1 :: o2 :: o3 :: some v :: r) H E Q := e_loc hw l_Lmade_4.v rfl h
theorem y_Lmade_4 {w : Nat → WP} {n : Nat} {G : GE} {o0 o1 o2 o3 o4 : Option TV} {r : TSt} {H : TH} {D : TEnds} {p q : Pos} {e : Expr} (hw : Steps w) (h : (w n).e S_Lmade G e (o0 :: o1 :: o2 :: o3 :: o4 :: r) H (fun x H1 => D.ex x (o0 :: o1 :: o2 :: o3 :: o4 :: r) H1) fun v H1 => D.nx (o0 :: o1 :: o2 :: o3 :: some v :: r) H1) (hc : isComp e = false := by decide +kernel) : (w (n + 1)).s S_Lmade G (.Assign [.Name "_law_some" p] e q) D (o0 :: o1 :: o2 :: o3 :: o4 :: r) H := s_asg' hw l_Lmade_4 h hc
theorem z_Lmade_4 {w : Nat → WP} {n : Nat} {G : GE} {o0 o1 o2 o3 o4 : Option TV} {r : TSt} {H : TH} {v : TV} {E : TX} {T : TSt → TH → Prop} {p : Pos} (hw : Steps w) (h : T (o0 :: o1 :: o2 :: o3 :: some v :: r) H) : (w (n + 1)).g S_Lmade G (.Name "_law_some" p) v (o0 :: o1 :: o2 :: o3 :: o4 :: r) H E T := g_nm hw l_Lmade_4 h
theorem x_Lmade_5 {w : Nat → WP} {n : Nat} {G : GE} {o0 o1 o2 o3 o4 : Option TV} {v : TV} {r : TSt} {H : TH} {E : TX} {Q : TQ} {p : Pos} (hw : Steps w) (h : Q v H) : (w (n + 1)).e S_Lmade G (.Name "_law_found" p) (o0 :: o1 :: o2 :: o3 :: o4 :: some v :: r) H E Q := e_loc hw l_Lmade_5.v rfl h
theorem y_Lmade_5 {w : Nat → WP} {n : Nat} {G : GE} {o0 o1 o2 o3 o4 o5 : Option TV} {r : TSt} {H : TH} {D : TEnds} {p q : Pos} {e : Expr} (hw : Steps w) (h : (w n).e S_Lmade G e (o0 :: o1 :: o2 :: o3 :: o4 :: o5 :: r) H (fun x H1 => D.ex x (o0 :: o1 :: o2 :: o3 :: o4 :: o5 :: r) H1) fun v H1 => D.nx (o0 :: o1 :: o2 :: o3 :: o4 :: some v :: r) H1) (hc : isComp e = false := by decide +kernel) : (w (n + 1)).s S_Lmade G (.Assign [.Name "_law_found" p] e q) D (o0 :: o1 :: o2 :: o3 :: o4 :: o5 :: r) H := s_asg' hw l_Lmade_5 h hc
theorem z_Lmade_5 {w : Nat → WP} {n : Nat} {G : GE} {o0 o1 o2 o3 o4 o5 : Option TV} {r : TSt} {H : TH} {v : TV} {E : TX} {T : TSt → TH → Prop} {p : Pos} (hw : Steps w) (h : T (o0 :: o1 :: o2 :: o3 :: o4 :: some v :: r) H) : (w (n + 1)).g S_Lmade G (.Name "_law_found" p) v (o0 :: o1 :: o2 :: o3 :: o4 :: o5 :: r) H E T := g_nm hw l_Lmade_5 h
theorem x_Lmade_6 {w : Nat → WP} {n : Nat} {G : GE} {o0 o1 o2 o3 o4 o5 : Option TV} {v : TV} {r : TSt} {H : TH} {E : TX} {Q : TQ} {p : Pos} (hw : Steps w) (h : Q v H) : (w (n + 1)).e S_Lmade G (.Name "_law_at" p) (o0 :: o1 :: o2 :: o3 :: o4 :: o5 :: some v :: r) H E Q := e_loc hw l_Lmade_6.v rfl h
theorem y_Lmade_6 {w : Nat → WP} {n : Nat} {G : GE} {o0 o1 o2 o3 o4 o5 o6 : Option TV} {r : TSt} {H : TH} {D : TEnds} {p q : Pos} {e : Expr} (hw : Steps w) (h : (w n).e S_Lmade G e (o0 :: o1 :: o2 :: o3 :: o4 :: o5 :: o6 :: r) H (fun x H1 => D.ex x (o0 :: o1 :: o2 :: o3 :: o4 :: o5 :: o6 :: r) H1) fun v H1 => D.nx (o0 :: o1 :: o2 :: o3 :: o4 :: o5 :: some v :: r) H1) (hc : isComp e = false := by decide +kernel) : (w (n + 1)).s S_Lmade G (.Assign [.Name "_law_at" p] e q) D (o0 :: o1 :: o2 :: o3 :: o4 :: o5 :: o6 :: r) H := s_asg' hw l_Lmade_6 h hc
theorem z_Lmade_6 {w : Nat → WP} {n : Nat} {G : GE} {o0 o1 o2 o3 o4 o5 o6 : Option TV} {r : TSt} {H : TH} {v : TV} {E : TX} {T : TSt → TH → Prop} {p : Pos} (hw : Steps w) (h : T (o0 :: o1 :: o2 :: o3 :: o4 :: o5 :: some v :: r) H) : (w (n + 1)).g S_Lmade G (.Name "_law_at" p) v (o0 :: o1 :: o2 :: o3 :: o4 :: o5 :: o6 :: r) H E T := g_nm hw l_Lmade_6 h
theorem x_Lmade_7 {w : Nat → WP} {n : Nat} {G : GE} {o0 o1 o2 o3 o4 o5 o6 : Option TV} {v : TV} {r : TSt} {H : TH} {E : TX} {Q : TQ} {p : Pos} (hw : Steps w) (h : Q v H) : (w (n + 1)).e S_Lmade G (.Name "_law_way" p) (o0 :: o1 :: o2 :: o3 :: o4 :: o5 :: o6 :: some v :: r) H E Q := e_loc hw l_Lmade_7.v rfl h
theorem y_Lmade_7 {w : Nat → WP} {n : Nat} {G : GE} {o0 o1 o2 o3 o4 o5 o6 o7 : Option TV} {r : TSt} {H : TH} {D : TEnds} {p q : Pos} {e : Expr} (hw : Steps w) (h : (w n).e S_Lmade G e (o0 :: o1 :: o2 :: o3 :: o4 :: o5 :: o6 :: o7 :: r) H (fun x H1 => D.ex x (o0 :: o1 :: o2 :: o3 :: o4 :: o5 :: o6 :: o7 :: r) H1) fun v H1 => D.nx (o0 :: o1 :: o2 :: o3 :: o4 :: o5 :: o6 :: some v :: r) H1) (hc : isComp e = false := by decide +kernel) : (w (n + 1)).s S_Lmade G (.Assign [.Name "_law_way" p] e q) D (o0 :: o1 :: o2 :: o3 :: o4 :: o5 :: o6 :: o7 :: r) H := s_asg' hw l_Lmade_7 h hc
theorem z_Lmade_7 {w : Nat → WP} {n : Nat} {G : GE} {o0 o1 o2 o3 o4 o5 o6 o7 : Option TV} {r : TSt} {H : TH} {v : TV} {E : TX} {T : TSt → TH → Prop} {p : Pos} (hw : Steps w) (h : T (o0 :: o1 :: o2 :: o3 :: o4 :: o5 :: o6 :: some v :: r) H) : (w (n + 1)).g S_Lmade G (.Name "_law_way" p) v (o0 :: o1 :: o2 :: o3 :: o4 :: o5 :: o6 :: o7 :: r) H E T := g_nm hw l_Lmade_7 h
theorem par_Lmade_6_7 {w : Nat → WP} {n : Nat} {G : GE} {o0 o1 o2 o3 o4 o5 o6 o7 : Option TV} {r : TSt} {H : TH} {D : TEnds} {p1 p2 p p3 q : Pos} {a b : Expr} {k k2} (hw : Steps w) (h : (w n).e S_Lmade G a (o0 :: o1 :: o2 :: o3 :: o4 :: o5 :: o6 :: o7 :: r) H (fun x H1 => D.ex x (o0 :: o1 :: o2 :: o3 :: o4 :: o5 :: o6 :: o7 :: r) H1) fun u H1 => (w n).e S_Lmade G b (o0 :: o1 :: o2 :: o3 :: o4 :: o5 :: o6 :: o7 :: r) H1 (fun x H1 => D.ex x (o0 :: o1 :: o2 :: o3 :: o4 :: o5 :: o6 :: o7 :: r) H1) fun v H2 => D.nx (o0 :: o1 :: o2 :: o3 :: o4 :: o5 :: some u :: some v :: r) H2) (hp : parOf S_Lmade [.Name "_law_at" p1, .Name "_law_way" p2] (.Tuple [a, b] k2 p3) = some (6, 7, [a, b]) := by kernel_rfl) : (w (n + 1)).s S_Lmade G (.Assign [.Tuple [.Name "_law_at" p1, .Name "_law_way" p2] k p] (.Tuple [a, b] k2 p3) q) D (o0 :: o1 :: o2 :: o3 :: o4 :: o5 :: o6 :: o7 :: r) H := s_par2 hw hp cm_Lmade h
theorem cm_Ltwin : S_Ltwin.calm = true := rfl
theorem x_Ltwin_0 {w : Nat → WP} {n : Nat} {G : GE} {v : TV} {r : TSt} {H : TH} {E : TX} {Q : TQ} {p : Pos} (hw : Steps w) (h : Q v H) : (w (n + 1)).e S_Ltwin G (.Name "_law_thing" p) (some v :: r) H E Q := e_loc hw l_Ltwin_0.v rfl h
theorem y_Ltwin_0 {w : Nat → WP} {n : Nat} {G : GE} {o0 : Option TV} {r : TSt} {H : TH} {D : TEnds} {p q : Pos} {e : Expr} (hw : Steps w) (h : (w n).e S_Ltwin G e (o0 :: r) H (fun x H1 => D.ex x (o0 :: r) H1) fun v H1 => D.nx (some v :: r) H1) (hc : isComp e = false := by decide +kernel) : (w (n + 1)).s S_Ltwin G (.Assign [.Name "_law_thing" p] e q) D (o0 :: r) H := s_asg' hw l_Ltwin_0 h hc
theorem z_Ltwin_0 {w : Nat → WP} {n : Nat} {G : GE} {o0 : Option TV} {r : TSt} {H : TH} {v : TV} {E : TX} {T : TSt → TH → Prop} {p : Pos} (hw : Steps w) (h : T (some v :: r) H) : (w (n + 1)).g S_Ltwin G (.Name "_law_thing" p) v (o0 :: r) H E T := g_nm hw l_Ltwin_0 h
def S_Ltwin_c0 : SC := S_Ltwin.blk { kind := PySem.ScopeKind.function, names := [ (PySem.Str.ofString ".0", PySem.NameKind.local), (PySem.Str.ofString "_law_one", PySem.NameKind.local), (PySem.Str.ofString "_law_twin", PySem.NameKind.globalImplicit)], isGenerator := false, isCoroutine := false, more := [] : PySem.Scope }
theorem cm_Ltwin_c0 : S_Ltwin_c0.calm = true := rfl
theorem lc_Ltwin_0 {w : Nat → WP} {n : Nat} {G : GE} {o0 o1 : Option TV} {r : TSt} {H : TH} {E : TX} {Q : TQ} {p : Pos} {tg it elt : Expr} {ifs : List Expr} (hw : Steps w) (h : (w n).i S_Ltwin G tg it (o0 :: o1 :: r) H E fun J H1 => lcGo J.still ((w n).g S_Ltwin_c0 G tg) (testsW ((w n).t S_Ltwin_c0 G) ifs) ((w n).e S_Ltwin_c0 G elt) (o0 :: none :: r) (fun l H2 => ∀ p, H2 p = none → Q (.ref p) (tupd H2 p (.lst l))) [] J.items H1) (h1 : tgIn S_Ltwin.N [1] tg = true := by decide +kernel) (h2 : stepE.isSet it = false := by decide +kernel) : (w (n + 1)).e S_Ltwin G (.ListComp elt [⟨tg, it, ifs, 0⟩] { kind := PySem.ScopeKind.function, names := [ (PySem.Str.ofString ".0", PySem.NameKind.local), (PySem.Str.ofString "_law_one", PySem.NameKind.local), (PySem.Str.ofString "_law_twin", PySem.NameKind.globalImplicit)], isGenerator := false, isCoroutine := false, more := [] : PySem.Scope } p) (o0 :: o1 :: r) H E Q := e_lc' (vs := [1]) hw (by decide +kernel) (by rw [h1_c (by decide +kernel : (ownOf S_Ltwin.N { kind := PySem.ScopeKind.function, names := [ (PySem.Str.ofString ".0", PySem.NameKind.local), (PySem.Str.ofString "_law_one", PySem.NameKind.local), (PySem.Str.ofString "_law_twin", PySem.NameKind.globalImplicit)], isGenerator := false, isCoroutine := false, more := [] : PySem.Scope }).map (·.2) = [1]) h1]; decide +kernel) h2 h
theorem v_Ltwin_c0_1 : VisN S_Ltwin_c0 "_law_one" 1 := ⟨by decide +kernel, by decide +kernel⟩
theorem x_Ltwin_c0_1 {w : Nat → WP} {n : Nat} {G : GE} {o0 : Option TV} {v : TV} {r : TSt} {H : TH} {E : TX} {Q : TQ} {p : Pos} (hw : Steps w) (h : Q v H) : (w (n + 1)).e S_Ltwin_c0 G (.Name "_law_one" p) (o0 :: some v :: r) H E Q := e_loc hw v_Ltwin_c0_1 rfl h
theorem z_Ltwin_c0_1 {w : Nat → WP} {n : Nat} {G : GE} {o0 o1 : Option TV} {r : TSt} {H : TH} {v : TV} {E : TX} {T : TSt → TH → Prop} {p : Pos} (hw : Steps w) (h : T (o0 :: some v :: r) H) : (w (n + 1)).g S_Ltwin_c0 G (.Name "_law_one" p) v (o0 :: o1 :: r) H E T := g_nm hw (S := S_Ltwin_c0) (i := 1) ⟨by decide +kernel, by decide +kernel, by decide +kernel⟩ h
theorem g_Ltwin_c0_Ltwin : GlbN S_Ltwin_c0 "_law_twin" := ⟨by decide +kernel, by decide +kernel, by decide +kernel, by decide +kernel⟩
theorem cm_Lsaid : S_Lsaid.calm = true := rfl
theorem xh_Lsaid_0 {w : Nat → WP} {n : Nat} {G : GE} {v : TV} {r : TSt} {H : TH} {E : TX} {Q : TQ} {p : Pos} (hw : Steps w) (h : Q v H) : (w (n + 1)).e S_Lsaid.hot G (.Name "_law_thing" p) (some v :: r) H E Q := e_loc hw (VisN.hot l_Lsaid_0.v) rfl h
theorem yh_Lsaid_0 {w : Nat → WP} {n : Nat} {G : GE} {o0 : Option TV} {r : TSt} {H : TH} {D : TEnds} {p q : Pos} {e : Expr} (hw : Steps w) (h : (w n).e S_Lsaid.hot G e (o0 :: r) H (fun x H1 => D.ex x (o0 :: r) H1) fun v H1 => D.nx (some v :: r) H1) (hc : isComp e = false := by decide +kernel) : (w (n + 1)).s S_Lsaid.hot G (.Assign [.Name "_law_thing" p] e q) D (o0 :: r) H := s_asg' hw (LocN.hot l_Lsaid_0) h hc
theorem xh_Lsaid_1 {w : Nat → WP} {n : Nat} {G : GE} {o0 : Option TV} {v : TV} {r : TSt} {H : TH} {E : TX} {Q : TQ} {p : Pos} (hw : Steps w) (h : Q v H) : (w (n + 1)).e S_Lsaid.hot G (.Name "_law_e" p) (o0 :: some v :: r) H E Q := e_loc hw (VisN.hot l_Lsaid_1.v) rfl h
theorem yh_Lsaid_1 {w : Nat → WP} {n : Nat} {G : GE} {o0 o1 : Option TV} {r : TSt} {H : TH} {D : TEnds} {p q : Pos} {e : Expr} (hw : Steps w) (h : (w n).e S_Lsaid.hot G e (o0 :: o1 :: r) H (fun x H1 => D.ex x (o0 :: o1 :: r) H1) fun v H1 => D.nx (o0 :: some v :: r) H1) (hc : isComp e = false := by decide +kernel) : (w (n + 1)).s S_Lsaid.hot G (.Assign [.Name "_law_e" p] e q) D (o0 :: o1 :: r) H := s_asg' hw (LocN.hot l_Lsaid_1) h hc
theorem xh_Lsaid_2 {w : Nat → WP} {n : Nat} {G : GE} {o0 o1 : Option TV} {v : TV} {r : TSt} {H : TH} {E : TX} {Q : TQ} {p : Pos} (hw : Steps w) (h : Q v H) : (w (n + 1)).e S_Lsaid.hot G (.Name "_law_found" p) (o0 :: o1 :: some v :: r) H E Q := e_loc hw (VisN.hot l_Lsaid_2.v) rfl h
theorem yh_Lsaid_2 {w : Nat → WP} {n : Nat} {G : GE} {o0 o1 o2 : Option TV} {r : TSt} {H : TH} {D : TEnds} {p q : Pos} {e : Expr} (hw : Steps w) (h : (w n).e S_Lsaid.hot G e (o0 :: o1 :: o2 :: r) H (fun x H1 => D.ex x (o0 :: o1 :: o2 :: r) H1) fun v H1 => D.nx (o0 :: o1 :: some v :: r) H1) (hc : isComp e = false := by decide +kernel) : (w (n + 1)).s S_Lsaid.hot G (.Assign [.Name "_law_found" p] e q) D (o0 :: o1 :: o2 :: r) H := s_asg' hw (LocN.hot l_Lsaid_2) h hc
theorem xh_Lsaid_3 {w : Nat → WP} {n : Nat} {G : GE} {o0 o1 o2 : Option TV} {v : TV} {r : TSt} {H : TH} {E : TX} {Q : TQ} {p : Pos} (hw : Steps w) (h : Q v H) : (w (n + 1)).e S_Lsaid.hot G (.Name "error" p) (o0 :: o1 :: o2 :: some v :: r) H E Q := e_loc hw (VisN.hot l_Lsaid_3.v) rfl h
theorem yh_Lsaid_3 {w : Nat → WP} {n : Nat} {G : GE} {o0 o1 o2 o3 : Option TV} {r : TSt} {H : TH} {D : TEnds} {p q : Pos} {e : Expr} (hw : Steps w) (h : (w n).e S_Lsaid.hot G e (o0 :: o1 :: o2 :: o3 :: r) H (fun x H1 => D.ex x (o0 :: o1 :: o2 :: o3 :: r) H1) fun v H1 => D.nx (o0 :: o1 :: o2 :: some v :: r) H1) (hc : isComp e = false := by decide +kernel) : (w (n + 1)).s S_Lsaid.hot G (.Assign [.Name "error" p] e q) D (o0 :: o1 :: o2 :: o3 :: r) H := s_asg' hw (LocN.hot l_Lsaid_3) h hc
theorem xc_Lsaid_3 {w : WP} {G : GE} {H : TH} {D : TEnds} {c : Str} {su : List Stmt} {hds : List ExceptHandler} {k : Str} {fs : List (Str × TV)} {p q : Pos} {r : TSt} {o0 o1 o2 o3 : Option TV} (hr : ((G.cls k).bind fun ci => ci.rel.lookup c) = some true) (h : ∀ a, H a = none → blockW (w.s S_Lsaid.hot G) su (backT (some 3) D) (o0 :: o1 :: o2 :: some (.ref a) :: r) (tupd H a (.exc k fs))) : catchW w S_Lsaid G D (.ExceptHandler (some (.Name c p)) (some "error") su q :: hds) ⟨k, fs⟩ (o0 :: o1 :: o2 :: o3 :: r) H := x_catch (oi := some 3) hr (by kernel_rfl) h
theorem bn_Lsaid_3 {o0 o1 o2 o3 : Option TV} {r : TSt} {H : TH} {D : TEnds} (h : D.nx (o0 :: o1 :: o2 :: none :: r) H) : (backT (some 3) D).nx (o0 :: o1 :: o2 :: o3 :: r) H := h
theorem x_Lsaid_0 {w : Nat → WP} {n : Nat} {G : GE} {v : TV} {r : TSt} {H : TH} {E : TX} {Q : TQ} {p : Pos} (hw : Steps w) (h : Q v H) : (w (n + 1)).e S_Lsaid G (.Name "_law_thing" p) (some v :: r) H E Q := e_loc hw l_Lsaid_0.v rfl h
theorem y_Lsaid_0 {w : Nat → WP} {n : Nat} {G : GE} {o0 : Option TV} {r : TSt} {H : TH} {D : TEnds} {p q : Pos} {e : Expr} (hw : Steps w) (h : (w n).e S_Lsaid G e (o0 :: r) H (fun x H1 => D.ex x (o0 :: r) H1) fun v H1 => D.nx (some v :: r) H1) (hc : isComp e = false := by decide +kernel) : (w (n + 1)).s S_Lsaid G (.Assign [.Name "_law_thing" p] e q) D (o0 :: r) H := s_asg' hw l_Lsaid_0 h hc
theorem z_Lsaid_0 {w : Nat → WP} {n : Nat} {G : GE} {o0 : Option TV} {r : TSt} {H : TH} {v : TV} {E : TX} {T : TSt → TH → Prop} {p : Pos} (hw : Steps w) (h : T (some v :: r) H) : (w (n + 1)).g S_Lsaid G (.Name "_law_thing" p) v (o0 :: r) H E T := g_nm hw l_Lsaid_0 h
theorem x_Lsaid_1 {w : Nat → WP} {n : Nat} {G : GE} {o0 : Option TV} {v : TV} {r : TSt} {H : TH} {E : TX} {Q : TQ} {p : Pos} (hw : Steps w) (h : Q v H) : (w (n + 1)).e S_Lsaid G (.Name "_law_e" p) (o0 :: some v :: r) H E Q := e_loc hw l_Lsaid_1.v rfl h
theorem y_Lsaid_1 {w : Nat → WP} {n : Nat} {G : GE} {o0 o1 : Option TV} {r : TSt} {H : TH} {D : TEnds} {p q : Pos} {e : Expr} (hw : Steps w) (h : (w n).e S_Lsaid G e (o0 :: o1 :: r) H (fun x H1 => D.ex x (o0 :: o1 :: r) H1) fun v H1 => D.nx (o0 :: some v :: r) H1) (hc : isComp e = false := by decide +kernel) : (w (n + 1)).s S_Lsaid G (.Assign [.Name "_law_e" p] e q) D (o0 :: o1 :: r) H := s_asg' hw l_Lsaid_1 h hc
theorem z_Lsaid_1 {w : Nat → WP} {n : Nat} {G : GE} {o0 o1 : Option TV} {r : TSt} {H : TH} {v : TV} {E : TX} {T : TSt → TH → Prop} {p : Pos} (hw : Steps w) (h : T (o0 :: some v :: r) H) : (w (n + 1)).g S_Lsaid G (.Name "_law_e" p) v (o0 :: o1 :: r) H E T := g_nm hw l_Lsaid_1 h
theorem x_Lsaid_2 {w : Nat → WP} {n : Nat} {G : GE} {o0 o1 : Option TV} {v : TV} {r : TSt} {H : TH} {E : TX} {Q : TQ} {p : Pos} (hw : Steps w) (h : Q v H) : (w (n + 1)).e S_Lsaid G (.Name "_law_found" p) (o0 :: o1 :: some v :: r) H E Q := e_loc hw l_Lsaid_2.v rfl h
theorem y_Lsaid_2 {w : Nat → WP} {n : Nat} {G : GE} {o0 o1 o2 : Option TV} {r : TSt} {H : TH} {D : TEnds} {p q : Pos} {e : Expr} (hw : Steps w) (h : (w n).e S_Lsaid G e (o0 :: o1 :: o2 :: r) H (fun x H1 => D.ex x (o0 :: o1 :: o2 :: r) H1) fun v H1 => D.nx (o0 :: o1 :: some v :: r) H1) (hc : isComp e = false := by decide +kernel) : (w (n + 1)).s S_Lsaid G (.Assign [.Name "_law_found" p] e q) D (o0 :: o1 :: o2 :: r) H := s_asg' hw l_Lsaid_2 h hc
theorem z_Lsaid_2 {w : Nat → WP} {n : Nat} {G : GE} {o0 o1 o2 : Option TV} {r : TSt} {H : TH} {v : TV} {E : TX} {T : TSt → TH → Prop} {p : Pos} (hw : Steps w) (h : T (o0 :: o1 :: some v :: r) H) : (w (n + 1)).g S_Lsaid G (.Name "_law_found" p) v (o0 :: o1 :: o2 :: r) H E T := g_nm hw l_Lsaid_2 h
theorem x_Lsaid_3 {w : Nat → WP} {n : Nat} {G : GE} {o0 o1 o2 : Option TV} {v : TV} {r : TSt} {H : TH} {E : TX} {Q : TQ} {p : Pos} (hw : Steps w) (h : Q v H) : (w (n + 1)).e S_Lsaid G (.Name "error" p) (o0 :: o1 :: o2 :: some v :: r) H E Q := e_loc hw l_Lsaid_3.v rfl h
theorem y_Lsaid_3 {w : Nat → WP} {n : Nat} {G : GE} {o0 o1 o2 o3 : Option TV} {r : TSt} {H : TH} {D : TEnds} {p q : Pos} {e : Expr} (hw : Steps w) (h : (w n).e S_Lsaid G e (o0 :: o1 :: o2 :: o3 :: r) H (fun x H1 => D.ex x (o0 :: o1 :: o2 :: o3 :: r) H1) fun v H1 => D.nx (o0 :: o1 :: o2 :: some v :: r) H1) (hc : isComp e = false := by decide +kernel) : (w (n + 1)).s S_Lsaid G (.Assign [.Name "error" p] e q) D (o0 :: o1 :: o2 :: o3 :: r) H := s_asg' hw l_Lsaid_3 h hc
theorem z_Lsaid_3 {w : Nat → WP} {n : Nat} {G : GE} {o0 o1 o2 o3 : Option TV} {r : TSt} {H : TH} {v : TV} {E : TX} {T : TSt → TH → Prop} {p : Pos} (hw : Steps w) (h : T (o0 :: o1 :: o2 :: some v :: r) H) : (w (n + 1)).g S_Lsaid G (.Name "error" p) v (o0 :: o1 :: o2 :: o3 :: r) H E T := g_nm hw l_Lsaid_3 h
theorem cm_law : S_law.calm = true := rfl
theorem x_law_0 {w : Nat → WP} {n : Nat} {G : GE} {v : TV} {r : TSt} {H : TH} {E : TX} {Q : TQ} {p : Pos} (hw : Steps w) (h : Q v H) : (w (n + 1)).e S_law G (.Name "_law_script" p) (some v :: r) H E Q := e_loc hw l_law_0.v rfl h
theorem y_law_0 {w : Nat → WP} {n : Nat} {G : GE} {o0 : Option TV} {r : TSt} {H : TH} {D : TEnds} {p q : Pos} {e : Expr} (hw : Steps w) (h : (w n).e S_law G e (o0 :: r) H (fun x H1 => D.ex x (o0 :: r) H1) fun v H1 => D.nx (some v :: r) H1) (hc : isComp e = false := by decide +kernel) : (w (n + 1)).s S_law G (.Assign [.Name "_law_script" p] e q) D (o0 :: r) H := s_asg' hw l_law_0 h hc
theorem z_law_0 {w : Nat → WP} {n : Nat} {G : GE} {o0 : Option TV} {r : TSt} {H : TH} {v : TV} {E : TX} {T : TSt → TH → Prop} {p : Pos} (hw : Steps w) (h : T (some v :: r) H) : (w (n + 1)).g S_law G (.Name "_law_script" p) v (o0 :: r) H E T := g_nm hw l_law_0 h
theorem x_law_1 {w : Nat → WP} {n : Nat} {G : GE} {o0 : Option TV} {v : TV} {r : TSt} {H : TH} {E : TX} {Q : TQ} {p : Pos} (hw : Steps w) (h : Q v H) : (w (n + 1)).e S_law G (.Name "_law_draw" p) (o0 :: some v :: r) H E Q := e_loc hw l_law_1.v rfl h
theorem y_law_1 {w : Nat → WP} {n : Nat} {G : GE} {o0 o1 : Option TV} {r : TSt} {H : TH} {D : TEnds} {p q : Pos} {e : Expr} (hw : Steps w) (h : (w n).e S_law G e (o0 :: o1 :: r) H (fun x H1 => D.ex x (o0 :: o1 :: r) H1) fun v H1 => D.nx (o0 :: some v :: r) H1) (hc : isComp e = false := by decide +kernel) : (w (n + 1)).s S_law G (.Assign [.Name "_law_draw" p] e q) D (o0 :: o1 :: r) H := s_asg' hw l_law_1 h hc
theorem z_law_1 {w : Nat → WP} {n : Nat} {G : GE} {o0 o1 : Option TV} {r : TSt} {H : TH} {v : TV} {E : TX} {T : TSt → TH → Prop} {p : Pos} (hw : Steps w) (h : T (o0 :: some v :: r) H) : (w (n + 1)).g S_law G (.Name "_law_draw" p) v (o0 :: o1 :: r) H E T := g_nm hw l_law_1 h
theorem x_law_2 {w : Nat → WP} {n : Nat} {G : GE} {o0 o1 : Option TV} {v : TV} {r : TSt} {H : TH} {E : TX} {Q : TQ} {p : Pos} (hw : Steps w) (h : Q v H) : (w (n + 1)).e S_law G (.Name "_law_k" p) (o0 :: o1 :: some v :: r) H E Q := e_loc hw l_law_2.v rfl h
theorem y_law_2 {w : Nat → WP} {n : Nat} {G : GE} {o0 o1 o2 : Option TV} {r : TSt} {H : TH} {D : TEnds} {p q : Pos} {e : Expr} (hw : Steps w) (h : (w n).e S_law G e (o0 :: o1 :: o2 :: r) H (fun x H1 => D.ex x (o0 :: o1 :: o2 :: r) H1) fun v H1 => D.nx (o0 :: o1 :: some v :: r) H1) (hc : isComp e = false := by decide +kernel) : (w (n + 1)).s S_law G (.Assign [.Name "_law_k" p] e q) D (o0 :: o1 :: o2 :: r) H := s_asg' hw l_law_2 h hc
theorem z_law_2 {w : Nat → WP} {n : Nat} {G : GE} {o0 o1 o2 : Option TV} {r : TSt} {H : TH} {v : TV} {E : TX} {T : TSt → TH → Prop} {p : Pos} (hw : Steps w) (h : T (o0 :: o1 :: some v :: r) H) : (w (n + 1)).g S_law G (.Name "_law_k" p) v (o0 :: o1 :: o2 :: r) H E T := g_nm hw l_law_2 h
theorem x_law_3 {w : Nat → WP} {n : Nat} {G : GE} {o0 o1 o2 : Option TV} {v : TV} {r : TSt} {H : TH} {E : TX} {Q : TQ} {p : Pos} (hw : Steps w) (h : Q v H) : (w (n + 1)).e S_law G (.Name "_law_one" p) (o0 :: o1 :: o2 :: some v :: r) H E Q := e_loc hw l_law_3.v rfl h
theorem y_law_3 {w : Nat → WP} {n : Nat} {G : GE} {o0 o1 o2 o3 : Option TV} {r : TSt} {H : TH} {D : TEnds} {p q : Pos} {e : Expr} (hw : Steps w) (h : (w n).e S_law G e (o0 :: o1 :: o2 :: o3 :: r) H (fun x H1 => D.ex x (o0 :: o1 :: o2 :: o3 :: r) H1) fun v H1 => D.nx (o0 :: o1 :: o2 :: some v :: r) H1) (hc : isComp e = false := by decide +kernel) : (w (n + 1)).s S_law G (.Assign [.Name "_law_one" p] e q) D (o0 :: o1 :: o2 :: o3 :: r) H := s_asg' hw l_law_3 h hc
theorem z_law_3 {w : Nat → WP} {n : Nat} {G : GE} {o0 o1 o2 o3 : Option TV} {r : TSt} {H : TH} {v : TV} {E : TX} {T : TSt → TH → Prop} {p : Pos} (hw : Steps w) (h : T (o0 :: o1 :: o2 :: some v :: r) H) : (w (n + 1)).g S_law G (.Name "_law_one" p) v (o0 :: o1 :: o2 :: o3 :: r) H E T := g_nm hw l_law_3 h
theorem x_law_4 {w : Nat → WP} {n : Nat} {G : GE} {o0 o1 o2 o3 : Option TV} {v : TV} {r : TSt} {H : TH} {E : TX} {Q : TQ} {p : Pos} (hw : Steps w) (h : Q v H) : (w (n + 1)).e S_law G (.Name "_law_thing" p) (o0 :: o1 :: o2 :: o3 :: some v :: r) H E Q := e_loc hw l_law_4.v rfl h
theorem y_law_4 {w : Nat → WP} {n : Nat} {G : GE} {o0 o1 o2 o3 o4 : Option TV} {r : TSt} {H : TH} {D : TEnds} {p q : Pos} {e : Expr} (hw : Steps w) (h : (w n).e S_law G e (o0 :: o1 :: o2 :: o3 :: o4 :: r) H (fun x H1 => D.ex x (o0 :: o1 :: o2 :: o3 :: o4 :: r) H1) fun v H1 => D.nx (o0 :: o1 :: o2 :: o3 :: some v :: r) H1) (hc : isComp e = false := by decide +kernel) : (w (n + 1)).s S_law G (.Assign [.Name "_law_thing" p] e q) D (o0 :: o1 :: o2 :: o3 :: o4 :: r) H := s_asg' hw l_law_4 h hc
theorem z_law_4 {w : Nat → WP} {n : Nat} {G : GE} {o0 o1 o2 o3 o4 : Option TV} {r : TSt} {H : TH} {v : TV} {E : TX} {T : TSt → TH → Prop} {p : Pos} (hw : Steps w) (h : T (o0 :: o1 :: o2 :: o3 :: some v :: r) H) : (w (n + 1)).g S_law G (.Name "_law_thing" p) v (o0 :: o1 :: o2 :: o3 :: o4 :: r) H E T := g_nm hw l_law_4 h
theorem x_law_5 {w : Nat → WP} {n : Nat} {G : GE} {o0 o1 o2 o3 o4 : Option TV} {v : TV} {r : TSt} {H : TH} {E : TX} {Q : TQ} {p : Pos} (hw : Steps w) (h : Q v H) : (w (n + 1)).e S_law G (.Name "_law_due" p) (o0 :: o1 :: o2 :: o3 :: o4 :: some v :: r) H E Q := e_loc hw l_law_5.v rfl h
theorem y_law_5 {w : Nat → WP} {n : Nat} {G : GE} {o0 o1 o2 o3 o4 o5 : Option TV} {r : TSt} {H : TH} {D : TEnds} {p q : Pos} {e : Expr} (hw : Steps w) (h : (w n).e S_law G e (o0 :: o1 :: o2 :: o3 :: o4 :: o5 :: r) H (fun x H1 => D.ex x (o0 :: o1 :: o2 :: o3 :: o4 :: o5 :: r) H1) fun v H1 => D.nx (o0 :: o1 :: o2 :: o3 :: o4 :: some v :: r) H1) (hc : isComp e = false := by decide +kernel) : (w (n + 1)).s S_law G (.Assign [.Name "_law_due" p] e q) D (o0 :: o1 :: o2 :: o3 :: o4 :: o5 :: r) H := s_asg' hw l_law_5 h hc
theorem z_law_5 {w : Nat → WP} {n : Nat} {G : GE} {o0 o1 o2 o3 o4 o5 : Option TV} {r : TSt} {H : TH} {v : TV} {E : TX} {T : TSt → TH → Prop} {p : Pos} (hw : Steps w) (h : T (o0 :: o1 :: o2 :: o3 :: o4 :: some v :: r) H) : (w (n + 1)).g S_law G (.Name "_law_due" p) v (o0 :: o1 :: o2 :: o3 :: o4 :: o5 :: r) H E T := g_nm hw l_law_5 h
theorem x_law_6 {w : Nat → WP} {n : Nat} {G : GE} {o0 o1 o2 o3 o4 o5 : Option TV} {v : TV} {r : TSt} {H : TH} {E : TX} {Q : TQ} {p : Pos} (hw : Steps w) (h : Q v H) : (w (n + 1)).e S_law G (.Name "_law_turn" p) (o0 :: o1 :: o2 :: o3 :: o4 :: o5 :: some v :: r) H E Q := e_loc hw l_law_6.v rfl h
theorem y_law_6 {w : Nat → WP} {n : Nat} {G : GE} {o0 o1 o2 o3 o4 o5 o6 : Option TV} {r : TSt} {H : TH} {D : TEnds} {p q : Pos} {e : Expr} (hw : Steps w) (h : (w n).e S_law G e (o0 :: o1 :: o2 :: o3 :: o4 :: o5 :: o6 :: r) H (fun x H1 => D.ex x (o0 :: o1 :: o2 :: o3 :: o4 :: o5 :: o6 :: r) H1) fun v H1 => D.nx (o0 :: o1 :: o2 :: o3 :: o4 :: o5 :: some v :: r) H1) (hc : isComp e = false := by decide +kernel) : (w (n + 1)).s S_law G (.Assign [.Name "_law_turn" p] e q) D (o0 :: o1 :: o2 :: o3 :: o4 :: o5 :: o6 :: r) H := s_asg' hw l_law_6 h hc
theorem z_law_6 {w : Nat → WP} {n : Nat} {G : GE} {o0 o1 o2 o3 o4 o5 o6 : Option TV} {r : TSt} {H : TH} {v : TV} {E : TX} {T : TSt → TH → Prop} {p : Pos} (hw : Steps w) (h : T (o0 :: o1 :: o2 :: o3 :: o4 :: o5 :: some v :: r) H) : (w (n + 1)).g S_law G (.Name "_law_turn" p) v (o0 :: o1 :: o2 :: o3 :: o4 :: o5 :: o6 :: r) H E T := g_nm hw l_law_6 h
theorem x_law_7 {w : Nat → WP} {n : Nat} {G : GE} {o0 o1 o2 o3 o4 o5 o6 : Option TV} {v : TV} {r : TSt} {H : TH} {E : TX} {Q : TQ} {p : Pos} (hw : Steps w) (h : Q v H) : (w (n + 1)).e S_law G (.Name "_law_found" p) (o0 :: o1 :: o2 :: o3 :: o4 :: o5 :: o6 :: some v :: r) H E Q := e_loc hw l_law_7.v rfl h
theorem y_law_7 {w : Nat → WP} {n : Nat} {G : GE} {o0 o1 o2 o3 o4 o5 o6 o7 : Option TV} {r : TSt} {H : TH} {D : TEnds} {p q : Pos} {e : Expr} (hw : Steps w) (h : (w n).e S_law G e (o0 :: o1 :: o2 :: o3 :: o4 :: o5 :: o6 :: o7 :: r) H (fun x H1 => D.ex x (o0 :: o1 :: o2 :: o3 :: o4 :: o5 :: o6 :: o7 :: r) H1) fun v H1 => D.nx (o0 :: o1 :: o2 :: o3 :: o4 :: o5 :: o6 :: some v :: r) H1) (hc : isComp e = false := by decide +kernel) : (w (n + 1)).s S_law G (.Assign [.Name "_law_found" p] e q) D (o0 :: o1 :: o2 :: o3 :: o4 :: o5 :: o6 :: o7 :: r) H := s_asg' hw l_law_7 h hc
theorem z_law_7 {w : Nat → WP} {n : Nat} {G : GE} {o0 o1 o2 o3 o4 o5 o6 o7 : Option TV} {r : TSt} {H : TH} {v : TV} {E : TX} {T : TSt → TH → Prop} {p : Pos} (hw : Steps w) (h : T (o0 :: o1 :: o2 :: o3 :: o4 :: o5 :: o6 :: some v :: r) H) : (w (n + 1)).g S_law G (.Name "_law_found" p) v (o0 :: o1 :: o2 :: o3 :: o4 :: o5 :: o6 :: o7 :: r) H E T := g_nm hw l_law_7 h
theorem ne_c {x : TV} {l : List TV} {R : Prop} (h : R) : (x :: l) ≠ [] ∧ R := ⟨fun z => (nomatch z), h⟩
def ci_FlowError : CI := ⟨xkNo, [], []⟩
def ci_BadText : CI := ⟨xkNo, [], []⟩
def ci_Unsound : CI := ⟨xkNo, [], []⟩
def ci_BadNet : CI := ⟨xkNo, [], []⟩
def ci_BadTaker : CI := ⟨xkA, [("FlowError", true), ("BadAnswer", false), ("BadAsked", false), ("BadLimit", false), ("BadLine", false), ("BadLoop", false), ("BadNet", false), ("BadPlace", false), ("BadRoom", false), ("BadStory", false), ("BadText", false), ("Over", false), ("TooMany", false), ("Unsound", false), ("BadTaker", true)], []⟩
theorem xk_BadTaker {v : TV} {H : TH} {Q : List (Str × TV) → Prop} (h : Q []) : ci_BadTaker.xk [v] H Q := ⟨(by show 1 ≤ 1000; omega), h⟩
def ci_BadLimit : CI := ⟨xkNo, [], []⟩
def ci_BadAnswer : CI := ⟨xkNo, [], []⟩
def ci_Over : CI := ⟨xkNo, [], []⟩
def ci_BadRoom : CI := ⟨xkNo, [], []⟩
def ci_BadPlace : CI := ⟨xkNo, [], []⟩
def ci_BadAsked : CI := ⟨xkNo, [], []⟩
def ci_BadStory : CI := ⟨xkNo, [], []⟩
def ci_BadLoop : CI := ⟨xkNo, [], []⟩
def ci_TooMany : CI := ⟨xkNo, [], []⟩
def ci_BadLine : CI := ⟨xkNo, [], []⟩
def KS : List (Str × CI) := [("FlowError", ci_FlowError), ("BadText", ci_BadText), ("Unsound", ci_Unsound), ("BadNet", ci_BadNet), ("BadTaker", ci_BadTaker), ("BadLimit", ci_BadLimit), ("BadAnswer", ci_BadAnswer), ("Over", ci_Over), ("BadRoom", ci_BadRoom), ("BadPlace", ci_BadPlace), ("BadAsked", ci_BadAsked), ("BadStory", ci_BadStory), ("BadLoop", ci_BadLoop), ("TooMany", ci_TooMany), ("BadLine", ci_BadLine)]
end K06


set_option Elab.async false
set_option linter.all false
set_option maxRecDepth 100000
set_option maxHeartbeats 4000000
namespace K06
open PySem PySem.Spec L2 TL
def sp_Lbegin : TSp := fun vs H _ Q => ∃ ns : List Int, vs = [.rol (ns.map TV.int)] ∧ ns.length ≤ 63 ∧ ∀ d H', Drw d 0 H' → Q (.ref d) H'
def sp_Lmixed : TSp := fun vs H _ Q => ∃ c k : Int, vs = [.int c, .int k] ∧ 0 ≤ k ∧ k ≤ 1000000000 ∧ ∀ r : Int, 0 ≤ r → Q (.int r) H
theorem u_mixed {c k : Int} {H : TH} {E : TX} {Q : TQ} (h1 : 0 ≤ k) (h2 : k ≤ 1000000000) (h : ∀ r : Int, 0 ≤ r → Q (.int r) H) : sp_Lmixed [.int c, .int k] H E Q := ⟨c, k, rfl, h1, h2, h⟩
def G_Lmixed : GE := gOf [] [] []
theorem bd_Lmixed {w : Nat → WP} (hw : Steps w) {v0 v1 : TV} {H : TH} {E : TX} {Q : TQ} (h : sp_Lmixed [v0, v1] H E Q) : blockW ((w 40).s S_Lmixed G_Lmixed) (defBody st_Lmixed) ⟨fun _ H => Q .non H, Q, fun _ _ => False, fun _ _ => False, fun e _ H => E e H⟩ [some v0, some v1, none] H := by
  obtain ⟨c, k, e, h1, h2, h⟩ := h
  cases e
  refine b_cons ?_
  have a1 := Int.emod_nonneg c (show (1000000007 : Int) ≠ 0 by decide)
  have a2 := Int.emod_lt_of_pos c (show (0 : Int) < 1000000007 by decide)
  have a3 : 0 ≤ 7919 * k * k := Int.mul_nonneg (by omega) h1
  have a4 : 7919 * k * k ≤ 7919000000000 * 1000000000 := Int.mul_le_mul (by omega) h2 h1 (by omega)
  repeat (first | (with_reducible first | (refine isE ?_; first | refine x_Lmixed_0 hw ?_ | refine x_Lmixed_1 hw ?_ | refine x_Lmixed_2 hw ?_ | refine e_none hw ?_ | refine e_bool hw ?_ | refine e_int hw ?_ | refine e_str hw ?_ | refine e_bin hw ?_ | refine e_una hw ?_ | refine e_and hw ?_ | refine e_or hw ?_ | refine e_ife hw ?_ | refine e_cmp hw ?_ | refine e_cmp2 hw ?_ | refine e_sub hw ?_ | refine e_sl hw ?_ | refine e_tup hw ?_ | refine e_lst hw ?_ | refine e_dct hw ?_) | (refine isT ?_; first | refine t_not hw ?_ | refine t_and hw ?_ | refine t_or hw ?_ | refine t_cmp hw ?_ | refine t_cmp2 hw ?_ | refine t_name hw ?_ | refine t_call hw ?_ | refine t_sub hw ?_) | (refine isS ?_; first | refine s_ret' hw ?_ | refine s_pass' hw ?_ | refine s_brk' hw ?_ | refine s_cnt' hw ?_ | refine s_exp' hw ?_ | refine s_if' hw ?_ | refine s_put' hw ?_ | refine s_for' hw ?_ (hc := cm_Lmixed) | refine y_Lmixed_0 hw ?_ | refine y_Lmixed_1 hw ?_ | refine y_Lmixed_2 hw ?_) | (refine isG ?_; first | refine g_sb hw ?_ (hc := cm_Lmixed) | refine g_tp2 hw ?_ (hc := cm_Lmixed) | refine z_Lmixed_0 hw ?_ | refine z_Lmixed_1 hw ?_ | refine z_Lmixed_2 hw ?_) | (refine isI ?_; first | refine i_name hw ?_ | refine i_tup' hw ?_ | refine i_lst' hw ?_) | refine e_and1 ?_ | refine e_and2 ?_ | refine e_or1 ?_ | refine e_or2 ?_ | refine o_none ?_ | refine o_some ?_ | refine p_nil ?_ | refine p_cons ?_ | refine a_nil ?_ | refine a_cons ?_ | refine t_and1 ?_ | refine t_and2 ?_ | refine t_or1 ?_ | refine t_or2 ?_ | refine k_bl ?_ | refine k_int ?_ | refine nd_tru ?_ | refine if_t ?_ | refine if_f ?_ | refine b_nil ?_ | refine b_cons ?_ | refine g_nil ?_ | refine g_cons ?_ | refine o_add ?_ | refine o_sub ?_ | refine o_neg ?_ | refine o_nt ?_ | refine c_lt ?_ | refine c_le ?_ | refine c_gt ?_ | refine c_ge ?_ | refine c_eqI ?_ | refine c_eqS ?_ | refine c_neS ?_ | refine c_neI ?_ | refine c_eqB ?_ | refine if_tc (by decide +kernel) ?_ | refine if_fc (by decide +kernel) ?_ | refine ne_c ?_ | refine c_leB1 ?_ | refine c_leB2 ?_ | refine c_in2 ?_ | refine c_in3 ?_ | refine c_in4 ?_ | refine c_in5 ?_ | refine c_ni2 ?_ | refine c_ni4 ?_ | refine c_ni5 ?_ | refine c_eqT0 ?_ | refine c_eqT1 ?_ | refine l_tup ?_ | refine l_rol ?_ | refine l_ref (by assumption) ?_ | refine x_d0 (by assumption) ?_ | refine x_d1 (by assumption) ?_ | refine x_d2 (by assumption) ?_ | refine x_d3 (by assumption) ?_ | refine x_d0 tupd_same ?_ | refine x_d1 tupd_same ?_ | refine x_d2 tupd_same ?_ | refine x_d3 tupd_same ?_ | refine d_go4 ?_ | refine r_bl ?_ | refine r_bl4 (by assumption) ?_ | refine r_bl4 tupd_same ?_ | refine m_min ?_ | refine m_max ?_ | refine m_abs ?_ | refine x_t0 ?_ | refine x_t1 ?_ | refine x_t2 ?_) | (refine len_go ?_ ?_; · (simp; done)) | (refine o_mod ?_ ?_; · (first | decide | omega)) | (refine o_pow ⟨by decide, by decide, by decide⟩ ?_) | (refine o_mul (cmul ?_ ?_ ?_ ?_) ?_; (· omega); (· omega); (· omega); (· omega)) | (refine o_div (cdiv ?_ ?_) ?_; (· omega); (· omega)) | (refine if_tc ?_ ?_; · (first | rfl | (simp; done) | (simp; omega))) | (refine if_fc ?_ ?_; · (first | rfl | (simp; done) | (simp; omega))))
  have b1 := Int.emod_nonneg ((c % 1000000007 + 7919 * k * k + 31 * k + 7) * 48271) (show (2147483647 : Int) ≠ 0 by decide)
  have b2 := Int.emod_lt_of_pos ((c % 1000000007 + 7919 * k * k + 31 * k + 7) * 48271) (show (0 : Int) < 2147483647 by decide)
  repeat' (first | (with_reducible first | (refine isE ?_; first | refine x_Lmixed_0 hw ?_ | refine x_Lmixed_1 hw ?_ | refine x_Lmixed_2 hw ?_ | refine e_none hw ?_ | refine e_bool hw ?_ | refine e_int hw ?_ | refine e_str hw ?_ | refine e_bin hw ?_ | refine e_una hw ?_ | refine e_and hw ?_ | refine e_or hw ?_ | refine e_ife hw ?_ | refine e_cmp hw ?_ | refine e_cmp2 hw ?_ | refine e_sub hw ?_ | refine e_sl hw ?_ | refine e_tup hw ?_ | refine e_lst hw ?_ | refine e_dct hw ?_) | (refine isT ?_; first | refine t_not hw ?_ | refine t_and hw ?_ | refine t_or hw ?_ | refine t_cmp hw ?_ | refine t_cmp2 hw ?_ | refine t_name hw ?_ | refine t_call hw ?_ | refine t_sub hw ?_) | (refine isS ?_; first | refine s_ret' hw ?_ | refine s_pass' hw ?_ | refine s_brk' hw ?_ | refine s_cnt' hw ?_ | refine s_exp' hw ?_ | refine s_if' hw ?_ | refine s_put' hw ?_ | refine s_for' hw ?_ (hc := cm_Lmixed) | refine y_Lmixed_0 hw ?_ | refine y_Lmixed_1 hw ?_ | refine y_Lmixed_2 hw ?_) | (refine isG ?_; first | refine g_sb hw ?_ (hc := cm_Lmixed) | refine g_tp2 hw ?_ (hc := cm_Lmixed) | refine z_Lmixed_0 hw ?_ | refine z_Lmixed_1 hw ?_ | refine z_Lmixed_2 hw ?_) | (refine isI ?_; first | refine i_name hw ?_ | refine i_tup' hw ?_ | refine i_lst' hw ?_) | refine e_and1 ?_ | refine e_and2 ?_ | refine e_or1 ?_ | refine e_or2 ?_ | refine o_none ?_ | refine o_some ?_ | refine p_nil ?_ | refine p_cons ?_ | refine a_nil ?_ | refine a_cons ?_ | refine t_and1 ?_ | refine t_and2 ?_ | refine t_or1 ?_ | refine t_or2 ?_ | refine k_bl ?_ | refine k_int ?_ | refine nd_tru ?_ | refine if_t ?_ | refine if_f ?_ | refine b_nil ?_ | refine b_cons ?_ | refine g_nil ?_ | refine g_cons ?_ | refine o_add ?_ | refine o_sub ?_ | refine o_neg ?_ | refine o_nt ?_ | refine c_lt ?_ | refine c_le ?_ | refine c_gt ?_ | refine c_ge ?_ | refine c_eqI ?_ | refine c_eqS ?_ | refine c_neS ?_ | refine c_neI ?_ | refine c_eqB ?_ | refine if_tc (by decide +kernel) ?_ | refine if_fc (by decide +kernel) ?_ | refine ne_c ?_ | refine c_leB1 ?_ | refine c_leB2 ?_ | refine c_in2 ?_ | refine c_in3 ?_ | refine c_in4 ?_ | refine c_in5 ?_ | refine c_ni2 ?_ | refine c_ni4 ?_ | refine c_ni5 ?_ | refine c_eqT0 ?_ | refine c_eqT1 ?_ | refine l_tup ?_ | refine l_rol ?_ | refine l_ref (by assumption) ?_ | refine x_d0 (by assumption) ?_ | refine x_d1 (by assumption) ?_ | refine x_d2 (by assumption) ?_ | refine x_d3 (by assumption) ?_ | refine x_d0 tupd_same ?_ | refine x_d1 tupd_same ?_ | refine x_d2 tupd_same ?_ | refine x_d3 tupd_same ?_ | refine d_go4 ?_ | refine r_bl ?_ | refine r_bl4 (by assumption) ?_ | refine r_bl4 tupd_same ?_ | refine m_min ?_ | refine m_max ?_ | refine m_abs ?_ | refine x_t0 ?_ | refine x_t1 ?_ | refine x_t2 ?_) | (refine len_go ?_ ?_; · (simp; done)) | (refine o_mod ?_ ?_; · (first | decide | omega)) | (refine o_pow ⟨by decide, by decide, by decide⟩ ?_) | (refine o_mul (cmul ?_ ?_ ?_ ?_) ?_; (· omega); (· omega); (· omega); (· omega)) | (refine o_div (cdiv ?_ ?_) ?_; (· omega); (· omega)) | (refine if_tc ?_ ?_; · (first | rfl | (simp; done) | (simp; omega))) | (refine if_fc ?_ ?_; · (first | rfl | (simp; done) | (simp; omega))) | refine if_c (fun _ => ?_) (fun _ => ?_) | intro _ _)
  all_goals (refine h _ ?_; refine Int.ediv_nonneg (Int.emod_nonneg _ (by decide)) (by decide))
def sp_Lnext : TSp := fun vs H _ Q => ∃ d many m, vs = [.ref d, .int many] ∧ Drw d m H ∧ 0 ≤ m ∧ m ≤ 100000000 ∧ 0 < many ∧ many ≤ 1000000000 ∧ ∀ (r : Int) (H' : TH), 0 ≤ r → r < many → Drw d (m + 1) H' → Fx d H H' → Q (.int r) H'
def G_Lnext : GE := gOf [("_law_mixed", sp_Lmixed)] [] []
theorem c_Lnext_Lmixed : G_Lnext.fn "_law_mixed" = some (sp_Lmixed) := by kernel_rfl
theorem w_Lnext_Lmixed {w : Nat → WP} {n : Nat} {σ : TSt} {H : TH} {E : TX} {Q : TQ} {p pos : Pos} {es : List Expr} (hw : Steps w) (h : argsW ((w n).e S_Lnext G_Lnext) es σ H E fun xs H1 => sp_Lmixed xs H1 E Q) (hi : noIsi "_law_mixed" es = true := by decide +kernel) (hs : noStars es = true := by decide +kernel) : (w (n + 1)).e S_Lnext G_Lnext (.Call (.Name "_law_mixed" p) es [] pos) σ H E Q := e_call hw g_Lnext_Lmixed (by kernel_rfl) hi c_Lnext_Lmixed hs h
theorem bd_Lnext {w : Nat → WP} (hw : Steps w) {v0 v1 : TV} {H : TH} {E : TX} {Q : TQ} (h : sp_Lnext [v0, v1] H E Q) : blockW ((w 40).s S_Lnext G_Lnext) (defBody st_Lnext) ⟨fun _ H => Q .non H, Q, fun _ _ => False, fun _ _ => False, fun e _ H => E e H⟩ [some v0, some v1, none, none, none] H := by
  obtain ⟨d, many, m, e, hd, m1, m2, n1, n2, h⟩ := h
  cases e
  obtain ⟨c, a, l, u, ns, e1, e2, e3, e4, e5, e6, e7, e8, e9⟩ := hd.ex
  refine b_cons ?_
  have nz : many ≠ 0 := by omega
  have ln : 0 < (ns.map TV.int).length := by
    rw [List.length_map]
    exact List.length_pos_iff.mpr e4
  repeat' (first | (with_reducible first | refine get_left (by assumption) ?_ | refine get_at (by assumption) ?_ | refine get_cells (by assumption) ?_ | refine get_used (by assumption) ?_ | refine set_left (by assumption) ?_ | refine set_at (by assumption) ?_ | refine set_used (by assumption) ?_ | refine get_left tupd_same ?_ | refine get_at tupd_same ?_ | refine get_cells tupd_same ?_ | refine get_used tupd_same ?_ | refine set_left tupd_same ?_ | refine set_at tupd_same ?_ | refine set_used tupd_same ?_ | refine u_mixed (by omega) (by omega) ?_ | (refine isE ?_; first | refine x_Lnext_0 hw ?_ | refine x_Lnext_1 hw ?_ | refine x_Lnext_2 hw ?_ | refine x_Lnext_3 hw ?_ | refine x_Lnext_4 hw ?_ | refine e_bf hw g_Lnext_len b_len (by decide +kernel) (by decide +kernel) ?_ | refine w_Lnext_Lmixed hw ?_ | refine e_none hw ?_ | refine e_bool hw ?_ | refine e_int hw ?_ | refine e_str hw ?_ | refine e_bin hw ?_ | refine e_una hw ?_ | refine e_and hw ?_ | refine e_or hw ?_ | refine e_ife hw ?_ | refine e_cmp hw ?_ | refine e_cmp2 hw ?_ | refine e_sub hw ?_ | refine e_sl hw ?_ | refine e_tup hw ?_ | refine e_lst hw ?_ | refine e_dct hw ?_) | (refine isT ?_; first | refine t_not hw ?_ | refine t_and hw ?_ | refine t_or hw ?_ | refine t_cmp hw ?_ | refine t_cmp2 hw ?_ | refine t_name hw ?_ | refine t_call hw ?_ | refine t_sub hw ?_) | (refine isS ?_; first | refine s_ret' hw ?_ | refine s_pass' hw ?_ | refine s_brk' hw ?_ | refine s_cnt' hw ?_ | refine s_exp' hw ?_ | refine s_if' hw ?_ | refine s_put' hw ?_ | refine s_for' hw ?_ (hc := cm_Lnext) | refine y_Lnext_0 hw ?_ | refine y_Lnext_1 hw ?_ | refine y_Lnext_2 hw ?_ | refine y_Lnext_3 hw ?_ | refine y_Lnext_4 hw ?_) | (refine isG ?_; first | refine g_sb hw ?_ (hc := cm_Lnext) | refine g_tp2 hw ?_ (hc := cm_Lnext) | refine z_Lnext_0 hw ?_ | refine z_Lnext_1 hw ?_ | refine z_Lnext_2 hw ?_ | refine z_Lnext_3 hw ?_ | refine z_Lnext_4 hw ?_) | (refine isI ?_; first | refine i_name hw ?_ | refine i_tup' hw ?_ | refine i_lst' hw ?_) | refine e_and1 ?_ | refine e_and2 ?_ | refine e_or1 ?_ | refine e_or2 ?_ | refine o_none ?_ | refine o_some ?_ | refine p_nil ?_ | refine p_cons ?_ | refine a_nil ?_ | refine a_cons ?_ | refine t_and1 ?_ | refine t_and2 ?_ | refine t_or1 ?_ | refine t_or2 ?_ | refine k_bl ?_ | refine k_int ?_ | refine nd_tru ?_ | refine if_t ?_ | refine if_f ?_ | refine b_nil ?_ | refine b_cons ?_ | refine g_nil ?_ | refine g_cons ?_ | refine o_add ?_ | refine o_sub ?_ | refine o_neg ?_ | refine o_nt ?_ | refine c_lt ?_ | refine c_le ?_ | refine c_gt ?_ | refine c_ge ?_ | refine c_eqI ?_ | refine c_eqS ?_ | refine c_neS ?_ | refine c_neI ?_ | refine c_eqB ?_ | refine if_tc (by decide +kernel) ?_ | refine if_fc (by decide +kernel) ?_ | refine ne_c ?_ | refine c_leB1 ?_ | refine c_leB2 ?_ | refine c_in2 ?_ | refine c_in3 ?_ | refine c_in4 ?_ | refine c_in5 ?_ | refine c_ni2 ?_ | refine c_ni4 ?_ | refine c_ni5 ?_ | refine c_eqT0 ?_ | refine c_eqT1 ?_ | refine l_tup ?_ | refine l_rol ?_ | refine l_ref (by assumption) ?_ | refine x_d0 (by assumption) ?_ | refine x_d1 (by assumption) ?_ | refine x_d2 (by assumption) ?_ | refine x_d3 (by assumption) ?_ | refine x_d0 tupd_same ?_ | refine x_d1 tupd_same ?_ | refine x_d2 tupd_same ?_ | refine x_d3 tupd_same ?_ | refine d_go4 ?_ | refine r_bl ?_ | refine r_bl4 (by assumption) ?_ | refine r_bl4 tupd_same ?_ | refine m_min ?_ | refine m_max ?_ | refine m_abs ?_ | refine x_t0 ?_ | refine x_t1 ?_ | refine x_t2 ?_) | (refine len_go ?_ ?_; · (simp; done)) | (refine o_mod ?_ ?_; · (first | decide | omega)) | (refine o_pow ⟨by decide, by decide, by decide⟩ ?_) | (refine o_mul (cmul ?_ ?_ ?_ ?_) ?_; (· omega); (· omega); (· omega); (· omega)) | (refine o_div (cdiv ?_ ?_) ?_; (· omega); (· omega)) | (refine if_tc ?_ ?_; · (first | rfl | (simp; done) | (simp; omega))) | (refine if_fc ?_ ?_; · (first | rfl | (simp; done) | (simp; omega))) | refine if_c (fun _ => ?_) (fun _ => ?_) | intro _ _)
  · refine h _ _ (Int.emod_nonneg _ nz) (Int.emod_lt_of_pos _ n1) ⟨c, a, _, u, ns, tupd_same, e2, (tupd_ne e2).trans e3, e4, e5, e6, by omega, e8, by omega⟩ Fx.put
  · refine x_at e3 (Int.emod_nonneg _ (by omega)) (Int.emod_lt_of_pos _ (by omega)) fun v hv => ?_
    obtain ⟨cell, _, rfl⟩ := List.mem_map.mp hv
    have e3' := fun o => (tupd_ne e2 (H := H) (o := o)).trans e3
    repeat' (first | (with_reducible first | refine get_left (by assumption) ?_ | refine get_at (by assumption) ?_ | refine get_cells (by assumption) ?_ | refine get_used (by assumption) ?_ | refine set_left (by assumption) ?_ | refine set_at (by assumption) ?_ | refine set_used (by assumption) ?_ | refine get_left tupd_same ?_ | refine get_at tupd_same ?_ | refine get_cells tupd_same ?_ | refine get_used tupd_same ?_ | refine set_left tupd_same ?_ | refine set_at tupd_same ?_ | refine set_used tupd_same ?_ | refine u_mixed (by omega) (by omega) ?_ | refine l_ref (e3' _) ?_ | (refine isE ?_; first | refine x_Lnext_0 hw ?_ | refine x_Lnext_1 hw ?_ | refine x_Lnext_2 hw ?_ | refine x_Lnext_3 hw ?_ | refine x_Lnext_4 hw ?_ | refine e_bf hw g_Lnext_len b_len (by decide +kernel) (by decide +kernel) ?_ | refine w_Lnext_Lmixed hw ?_ | refine e_none hw ?_ | refine e_bool hw ?_ | refine e_int hw ?_ | refine e_str hw ?_ | refine e_bin hw ?_ | refine e_una hw ?_ | refine e_and hw ?_ | refine e_or hw ?_ | refine e_ife hw ?_ | refine e_cmp hw ?_ | refine e_cmp2 hw ?_ | refine e_sub hw ?_ | refine e_sl hw ?_ | refine e_tup hw ?_ | refine e_lst hw ?_ | refine e_dct hw ?_) | (refine isT ?_; first | refine t_not hw ?_ | refine t_and hw ?_ | refine t_or hw ?_ | refine t_cmp hw ?_ | refine t_cmp2 hw ?_ | refine t_name hw ?_ | refine t_call hw ?_ | refine t_sub hw ?_) | (refine isS ?_; first | refine s_ret' hw ?_ | refine s_pass' hw ?_ | refine s_brk' hw ?_ | refine s_cnt' hw ?_ | refine s_exp' hw ?_ | refine s_if' hw ?_ | refine s_put' hw ?_ | refine s_for' hw ?_ (hc := cm_Lnext) | refine y_Lnext_0 hw ?_ | refine y_Lnext_1 hw ?_ | refine y_Lnext_2 hw ?_ | refine y_Lnext_3 hw ?_ | refine y_Lnext_4 hw ?_) | (refine isG ?_; first | refine g_sb hw ?_ (hc := cm_Lnext) | refine g_tp2 hw ?_ (hc := cm_Lnext) | refine z_Lnext_0 hw ?_ | refine z_Lnext_1 hw ?_ | refine z_Lnext_2 hw ?_ | refine z_Lnext_3 hw ?_ | refine z_Lnext_4 hw ?_) | (refine isI ?_; first | refine i_name hw ?_ | refine i_tup' hw ?_ | refine i_lst' hw ?_) | refine e_and1 ?_ | refine e_and2 ?_ | refine e_or1 ?_ | refine e_or2 ?_ | refine o_none ?_ | refine o_some ?_ | refine p_nil ?_ | refine p_cons ?_ | refine a_nil ?_ | refine a_cons ?_ | refine t_and1 ?_ | refine t_and2 ?_ | refine t_or1 ?_ | refine t_or2 ?_ | refine k_bl ?_ | refine k_int ?_ | refine nd_tru ?_ | refine if_t ?_ | refine if_f ?_ | refine b_nil ?_ | refine b_cons ?_ | refine g_nil ?_ | refine g_cons ?_ | refine o_add ?_ | refine o_sub ?_ | refine o_neg ?_ | refine o_nt ?_ | refine c_lt ?_ | refine c_le ?_ | refine c_gt ?_ | refine c_ge ?_ | refine c_eqI ?_ | refine c_eqS ?_ | refine c_neS ?_ | refine c_neI ?_ | refine c_eqB ?_ | refine if_tc (by decide +kernel) ?_ | refine if_fc (by decide +kernel) ?_ | refine ne_c ?_ | refine c_leB1 ?_ | refine c_leB2 ?_ | refine c_in2 ?_ | refine c_in3 ?_ | refine c_in4 ?_ | refine c_in5 ?_ | refine c_ni2 ?_ | refine c_ni4 ?_ | refine c_ni5 ?_ | refine c_eqT0 ?_ | refine c_eqT1 ?_ | refine l_tup ?_ | refine l_rol ?_ | refine l_ref (by assumption) ?_ | refine x_d0 (by assumption) ?_ | refine x_d1 (by assumption) ?_ | refine x_d2 (by assumption) ?_ | refine x_d3 (by assumption) ?_ | refine x_d0 tupd_same ?_ | refine x_d1 tupd_same ?_ | refine x_d2 tupd_same ?_ | refine x_d3 tupd_same ?_ | refine d_go4 ?_ | refine r_bl ?_ | refine r_bl4 (by assumption) ?_ | refine r_bl4 tupd_same ?_ | refine m_min ?_ | refine m_max ?_ | refine m_abs ?_ | refine x_t0 ?_ | refine x_t1 ?_ | refine x_t2 ?_) | (refine len_go ?_ ?_; · (simp; done)) | (refine o_mod ?_ ?_; · (first | decide | omega)) | (refine o_pow ⟨by decide, by decide, by decide⟩ ?_) | (refine o_mul (cmul ?_ ?_ ?_ ?_) ?_; (· omega); (· omega); (· omega); (· omega)) | (refine o_div (cdiv ?_ ?_) ?_; (· omega); (· omega)) | (refine if_tc ?_ ?_; · (first | rfl | (simp; done) | (simp; omega))) | (refine if_fc ?_ ?_; · (first | rfl | (simp; done) | (simp; omega))) | refine if_c (fun _ => ?_) (fun _ => ?_) | intro _ _)
    · refine h _ _ (Int.emod_nonneg _ nz) (Int.emod_lt_of_pos _ n1) ⟨c, a + 1, _, u, ns, tupd_same, e2, (tupd_ne e2).trans (e3' _), e4, e5, by omega, by omega, e8, by omega⟩ (Fx.put.trans Fx.put)
    all_goals refine h _ _ (Int.emod_nonneg _ nz) (Int.emod_lt_of_pos _ n1) ⟨c, a + 1, _, u + 1, ns, tupd_same, e2, (tupd_ne e2).trans (e3' _), e4, e5, by omega, by omega, by omega, by omega⟩ (Fx.put.trans Fx.put)
theorem u_next {d : Addr} {many m : Int} {H : TH} {E : TX} {Q : TQ} (hd : Drw d m H) (h1 : 0 ≤ m) (h2 : m ≤ 100000000) (h3 : 0 < many) (h4 : many ≤ 1000000000) (h : ∀ (r : Int) (H' : TH), 0 ≤ r → r < many → Drw d (m + 1) H' → Fx d H H' → Q (.int r) H') : sp_Lnext [.ref d, .int many] H E Q := ⟨d, many, m, rfl, hd, h1, h2, h3, h4, h⟩
def G_Lbegin : GE := gOf [] [] []
theorem bd_Lbegin {w : Nat → WP} (hw : Steps w) {v0 : TV} {H : TH} {E : TX} {Q : TQ} (h : sp_Lbegin [v0] H E Q) : blockW ((w 40).s S_Lbegin G_Lbegin) (defBody st_Lbegin) ⟨fun _ H => Q .non H, Q, fun _ _ => False, fun _ _ => False, fun e _ H => E e H⟩ [some v0] H := by
  obtain ⟨ns, e, hl, h⟩ := h
  cases e
  refine b_cons ?_
  repeat (first | (with_reducible first | (refine isE ?_; first | refine x_Lbegin_0 hw ?_ | refine e_none hw ?_ | refine e_bool hw ?_ | refine e_int hw ?_ | refine e_str hw ?_ | refine e_bin hw ?_ | refine e_una hw ?_ | refine e_and hw ?_ | refine e_or hw ?_ | refine e_ife hw ?_ | refine e_cmp hw ?_ | refine e_cmp2 hw ?_ | refine e_sub hw ?_ | refine e_sl hw ?_ | refine e_tup hw ?_ | refine e_lst hw ?_ | refine e_dct hw ?_) | (refine isT ?_; first | refine t_not hw ?_ | refine t_and hw ?_ | refine t_or hw ?_ | refine t_cmp hw ?_ | refine t_cmp2 hw ?_ | refine t_name hw ?_ | refine t_call hw ?_ | refine t_sub hw ?_) | (refine isS ?_; first | refine s_ret' hw ?_ | refine s_pass' hw ?_ | refine s_brk' hw ?_ | refine s_cnt' hw ?_ | refine s_exp' hw ?_ | refine s_if' hw ?_ | refine s_put' hw ?_ | refine s_for' hw ?_ (hc := cm_Lbegin) | refine y_Lbegin_0 hw ?_) | (refine isG ?_; first | refine g_sb hw ?_ (hc := cm_Lbegin) | refine g_tp2 hw ?_ (hc := cm_Lbegin) | refine z_Lbegin_0 hw ?_) | (refine isI ?_; first | refine i_name hw ?_ | refine i_tup' hw ?_ | refine i_lst' hw ?_) | refine e_and1 ?_ | refine e_and2 ?_ | refine e_or1 ?_ | refine e_or2 ?_ | refine o_none ?_ | refine o_some ?_ | refine p_nil ?_ | refine p_cons ?_ | refine a_nil ?_ | refine a_cons ?_ | refine t_and1 ?_ | refine t_and2 ?_ | refine t_or1 ?_ | refine t_or2 ?_ | refine k_bl ?_ | refine k_int ?_ | refine nd_tru ?_ | refine if_t ?_ | refine if_f ?_ | refine b_nil ?_ | refine b_cons ?_ | refine g_nil ?_ | refine g_cons ?_ | refine o_add ?_ | refine o_sub ?_ | refine o_neg ?_ | refine o_nt ?_ | refine c_lt ?_ | refine c_le ?_ | refine c_gt ?_ | refine c_ge ?_ | refine c_eqI ?_ | refine c_eqS ?_ | refine c_neS ?_ | refine c_neI ?_ | refine c_eqB ?_ | refine if_tc (by decide +kernel) ?_ | refine if_fc (by decide +kernel) ?_ | refine ne_c ?_ | refine c_leB1 ?_ | refine c_leB2 ?_ | refine c_in2 ?_ | refine c_in3 ?_ | refine c_in4 ?_ | refine c_in5 ?_ | refine c_ni2 ?_ | refine c_ni4 ?_ | refine c_ni5 ?_ | refine c_eqT0 ?_ | refine c_eqT1 ?_ | refine l_tup ?_ | refine l_rol ?_ | refine l_ref (by assumption) ?_ | refine x_d0 (by assumption) ?_ | refine x_d1 (by assumption) ?_ | refine x_d2 (by assumption) ?_ | refine x_d3 (by assumption) ?_ | refine x_d0 tupd_same ?_ | refine x_d1 tupd_same ?_ | refine x_d2 tupd_same ?_ | refine x_d3 tupd_same ?_ | refine d_go4 ?_ | refine r_bl ?_ | refine r_bl4 (by assumption) ?_ | refine r_bl4 tupd_same ?_ | refine m_min ?_ | refine m_max ?_ | refine m_abs ?_ | refine x_t0 ?_ | refine x_t1 ?_ | refine x_t2 ?_) | (refine len_go ?_ ?_; · (simp; done)) | (refine o_mod ?_ ?_; · (first | decide | omega)) | (refine o_pow ⟨by decide, by decide, by decide⟩ ?_) | (refine o_mul (cmul ?_ ?_ ?_ ?_) ?_; (· omega); (· omega); (· omega); (· omega)) | (refine o_div (cdiv ?_ ?_) ?_; (· omega); (· omega)) | (refine if_tc ?_ ?_; · (first | rfl | (simp; done) | (simp; omega))) | (refine if_fc ?_ ?_; · (first | rfl | (simp; done) | (simp; omega))))
  intro r hr
  repeat (first | (with_reducible first | (refine isE ?_; first | refine x_Lbegin_0 hw ?_ | refine e_none hw ?_ | refine e_bool hw ?_ | refine e_int hw ?_ | refine e_str hw ?_ | refine e_bin hw ?_ | refine e_una hw ?_ | refine e_and hw ?_ | refine e_or hw ?_ | refine e_ife hw ?_ | refine e_cmp hw ?_ | refine e_cmp2 hw ?_ | refine e_sub hw ?_ | refine e_sl hw ?_ | refine e_tup hw ?_ | refine e_lst hw ?_ | refine e_dct hw ?_) | (refine isT ?_; first | refine t_not hw ?_ | refine t_and hw ?_ | refine t_or hw ?_ | refine t_cmp hw ?_ | refine t_cmp2 hw ?_ | refine t_name hw ?_ | refine t_call hw ?_ | refine t_sub hw ?_) | (refine isS ?_; first | refine s_ret' hw ?_ | refine s_pass' hw ?_ | refine s_brk' hw ?_ | refine s_cnt' hw ?_ | refine s_exp' hw ?_ | refine s_if' hw ?_ | refine s_put' hw ?_ | refine s_for' hw ?_ (hc := cm_Lbegin) | refine y_Lbegin_0 hw ?_) | (refine isG ?_; first | refine g_sb hw ?_ (hc := cm_Lbegin) | refine g_tp2 hw ?_ (hc := cm_Lbegin) | refine z_Lbegin_0 hw ?_) | (refine isI ?_; first | refine i_name hw ?_ | refine i_tup' hw ?_ | refine i_lst' hw ?_) | refine e_and1 ?_ | refine e_and2 ?_ | refine e_or1 ?_ | refine e_or2 ?_ | refine o_none ?_ | refine o_some ?_ | refine p_nil ?_ | refine p_cons ?_ | refine a_nil ?_ | refine a_cons ?_ | refine t_and1 ?_ | refine t_and2 ?_ | refine t_or1 ?_ | refine t_or2 ?_ | refine k_bl ?_ | refine k_int ?_ | refine nd_tru ?_ | refine if_t ?_ | refine if_f ?_ | refine b_nil ?_ | refine b_cons ?_ | refine g_nil ?_ | refine g_cons ?_ | refine o_add ?_ | refine o_sub ?_ | refine o_neg ?_ | refine o_nt ?_ | refine c_lt ?_ | refine c_le ?_ | refine c_gt ?_ | refine c_ge ?_ | refine c_eqI ?_ | refine c_eqS ?_ | refine c_neS ?_ | refine c_neI ?_ | refine c_eqB ?_ | refine if_tc (by decide +kernel) ?_ | refine if_fc (by decide +kernel) ?_ | refine ne_c ?_ | refine c_leB1 ?_ | refine c_leB2 ?_ | refine c_in2 ?_ | refine c_in3 ?_ | refine c_in4 ?_ | refine c_in5 ?_ | refine c_ni2 ?_ | refine c_ni4 ?_ | refine c_ni5 ?_ | refine c_eqT0 ?_ | refine c_eqT1 ?_ | refine l_tup ?_ | refine l_rol ?_ | refine l_ref (by assumption) ?_ | refine x_d0 (by assumption) ?_ | refine x_d1 (by assumption) ?_ | refine x_d2 (by assumption) ?_ | refine x_d3 (by assumption) ?_ | refine x_d0 tupd_same ?_ | refine x_d1 tupd_same ?_ | refine x_d2 tupd_same ?_ | refine x_d3 tupd_same ?_ | refine d_go4 ?_ | refine r_bl ?_ | refine r_bl4 (by assumption) ?_ | refine r_bl4 tupd_same ?_ | refine m_min ?_ | refine m_max ?_ | refine m_abs ?_ | refine x_t0 ?_ | refine x_t1 ?_ | refine x_t2 ?_) | (refine len_go ?_ ?_; · (simp; done)) | (refine o_mod ?_ ?_; · (first | decide | omega)) | (refine o_pow ⟨by decide, by decide, by decide⟩ ?_) | (refine o_mul (cmul ?_ ?_ ?_ ?_) ?_; (· omega); (· omega); (· omega); (· omega)) | (refine o_div (cdiv ?_ ?_) ?_; (· omega); (· omega)) | (refine if_tc ?_ ?_; · (first | rfl | (simp; done) | (simp; omega))) | (refine if_fc ?_ ?_; · (first | rfl | (simp; done) | (simp; omega))))
  intro a ha
  repeat (first | (with_reducible first | (refine isE ?_; first | refine x_Lbegin_0 hw ?_ | refine e_none hw ?_ | refine e_bool hw ?_ | refine e_int hw ?_ | refine e_str hw ?_ | refine e_bin hw ?_ | refine e_una hw ?_ | refine e_and hw ?_ | refine e_or hw ?_ | refine e_ife hw ?_ | refine e_cmp hw ?_ | refine e_cmp2 hw ?_ | refine e_sub hw ?_ | refine e_sl hw ?_ | refine e_tup hw ?_ | refine e_lst hw ?_ | refine e_dct hw ?_) | (refine isT ?_; first | refine t_not hw ?_ | refine t_and hw ?_ | refine t_or hw ?_ | refine t_cmp hw ?_ | refine t_cmp2 hw ?_ | refine t_name hw ?_ | refine t_call hw ?_ | refine t_sub hw ?_) | (refine isS ?_; first | refine s_ret' hw ?_ | refine s_pass' hw ?_ | refine s_brk' hw ?_ | refine s_cnt' hw ?_ | refine s_exp' hw ?_ | refine s_if' hw ?_ | refine s_put' hw ?_ | refine s_for' hw ?_ (hc := cm_Lbegin) | refine y_Lbegin_0 hw ?_) | (refine isG ?_; first | refine g_sb hw ?_ (hc := cm_Lbegin) | refine g_tp2 hw ?_ (hc := cm_Lbegin) | refine z_Lbegin_0 hw ?_) | (refine isI ?_; first | refine i_name hw ?_ | refine i_tup' hw ?_ | refine i_lst' hw ?_) | refine e_and1 ?_ | refine e_and2 ?_ | refine e_or1 ?_ | refine e_or2 ?_ | refine o_none ?_ | refine o_some ?_ | refine p_nil ?_ | refine p_cons ?_ | refine a_nil ?_ | refine a_cons ?_ | refine t_and1 ?_ | refine t_and2 ?_ | refine t_or1 ?_ | refine t_or2 ?_ | refine k_bl ?_ | refine k_int ?_ | refine nd_tru ?_ | refine if_t ?_ | refine if_f ?_ | refine b_nil ?_ | refine b_cons ?_ | refine g_nil ?_ | refine g_cons ?_ | refine o_add ?_ | refine o_sub ?_ | refine o_neg ?_ | refine o_nt ?_ | refine c_lt ?_ | refine c_le ?_ | refine c_gt ?_ | refine c_ge ?_ | refine c_eqI ?_ | refine c_eqS ?_ | refine c_neS ?_ | refine c_neI ?_ | refine c_eqB ?_ | refine if_tc (by decide +kernel) ?_ | refine if_fc (by decide +kernel) ?_ | refine ne_c ?_ | refine c_leB1 ?_ | refine c_leB2 ?_ | refine c_in2 ?_ | refine c_in3 ?_ | refine c_in4 ?_ | refine c_in5 ?_ | refine c_ni2 ?_ | refine c_ni4 ?_ | refine c_ni5 ?_ | refine c_eqT0 ?_ | refine c_eqT1 ?_ | refine l_tup ?_ | refine l_rol ?_ | refine l_ref (by assumption) ?_ | refine x_d0 (by assumption) ?_ | refine x_d1 (by assumption) ?_ | refine x_d2 (by assumption) ?_ | refine x_d3 (by assumption) ?_ | refine x_d0 tupd_same ?_ | refine x_d1 tupd_same ?_ | refine x_d2 tupd_same ?_ | refine x_d3 tupd_same ?_ | refine d_go4 ?_ | refine r_bl ?_ | refine r_bl4 (by assumption) ?_ | refine r_bl4 tupd_same ?_ | refine m_min ?_ | refine m_max ?_ | refine m_abs ?_ | refine x_t0 ?_ | refine x_t1 ?_ | refine x_t2 ?_) | (refine len_go ?_ ?_; · (simp; done)) | (refine o_mod ?_ ?_; · (first | decide | omega)) | (refine o_pow ⟨by decide, by decide, by decide⟩ ?_) | (refine o_mul (cmul ?_ ?_ ?_ ?_) ?_; (· omega); (· omega); (· omega); (· omega)) | (refine o_div (cdiv ?_ ?_) ?_; (· omega); (· omega)) | (refine if_tc ?_ ?_; · (first | rfl | (simp; done) | (simp; omega))) | (refine if_fc ?_ ?_; · (first | rfl | (simp; done) | (simp; omega))))
  refine o_radd tupd_same (Nat.le_trans (by simp; omega : _ ≤ 100) (by decide +kernel)) fun p hp => ?_
  repeat (first | (with_reducible first | (refine isE ?_; first | refine x_Lbegin_0 hw ?_ | refine e_none hw ?_ | refine e_bool hw ?_ | refine e_int hw ?_ | refine e_str hw ?_ | refine e_bin hw ?_ | refine e_una hw ?_ | refine e_and hw ?_ | refine e_or hw ?_ | refine e_ife hw ?_ | refine e_cmp hw ?_ | refine e_cmp2 hw ?_ | refine e_sub hw ?_ | refine e_sl hw ?_ | refine e_tup hw ?_ | refine e_lst hw ?_ | refine e_dct hw ?_) | (refine isT ?_; first | refine t_not hw ?_ | refine t_and hw ?_ | refine t_or hw ?_ | refine t_cmp hw ?_ | refine t_cmp2 hw ?_ | refine t_name hw ?_ | refine t_call hw ?_ | refine t_sub hw ?_) | (refine isS ?_; first | refine s_ret' hw ?_ | refine s_pass' hw ?_ | refine s_brk' hw ?_ | refine s_cnt' hw ?_ | refine s_exp' hw ?_ | refine s_if' hw ?_ | refine s_put' hw ?_ | refine s_for' hw ?_ (hc := cm_Lbegin) | refine y_Lbegin_0 hw ?_) | (refine isG ?_; first | refine g_sb hw ?_ (hc := cm_Lbegin) | refine g_tp2 hw ?_ (hc := cm_Lbegin) | refine z_Lbegin_0 hw ?_) | (refine isI ?_; first | refine i_name hw ?_ | refine i_tup' hw ?_ | refine i_lst' hw ?_) | refine e_and1 ?_ | refine e_and2 ?_ | refine e_or1 ?_ | refine e_or2 ?_ | refine o_none ?_ | refine o_some ?_ | refine p_nil ?_ | refine p_cons ?_ | refine a_nil ?_ | refine a_cons ?_ | refine t_and1 ?_ | refine t_and2 ?_ | refine t_or1 ?_ | refine t_or2 ?_ | refine k_bl ?_ | refine k_int ?_ | refine nd_tru ?_ | refine if_t ?_ | refine if_f ?_ | refine b_nil ?_ | refine b_cons ?_ | refine g_nil ?_ | refine g_cons ?_ | refine o_add ?_ | refine o_sub ?_ | refine o_neg ?_ | refine o_nt ?_ | refine c_lt ?_ | refine c_le ?_ | refine c_gt ?_ | refine c_ge ?_ | refine c_eqI ?_ | refine c_eqS ?_ | refine c_neS ?_ | refine c_neI ?_ | refine c_eqB ?_ | refine if_tc (by decide +kernel) ?_ | refine if_fc (by decide +kernel) ?_ | refine ne_c ?_ | refine c_leB1 ?_ | refine c_leB2 ?_ | refine c_in2 ?_ | refine c_in3 ?_ | refine c_in4 ?_ | refine c_in5 ?_ | refine c_ni2 ?_ | refine c_ni4 ?_ | refine c_ni5 ?_ | refine c_eqT0 ?_ | refine c_eqT1 ?_ | refine l_tup ?_ | refine l_rol ?_ | refine l_ref (by assumption) ?_ | refine x_d0 (by assumption) ?_ | refine x_d1 (by assumption) ?_ | refine x_d2 (by assumption) ?_ | refine x_d3 (by assumption) ?_ | refine x_d0 tupd_same ?_ | refine x_d1 tupd_same ?_ | refine x_d2 tupd_same ?_ | refine x_d3 tupd_same ?_ | refine d_go4 ?_ | refine r_bl ?_ | refine r_bl4 (by assumption) ?_ | refine r_bl4 tupd_same ?_ | refine m_min ?_ | refine m_max ?_ | refine m_abs ?_ | refine x_t0 ?_ | refine x_t1 ?_ | refine x_t2 ?_) | (refine len_go ?_ ?_; · (simp; done)) | (refine o_mod ?_ ?_; · (first | decide | omega)) | (refine o_pow ⟨by decide, by decide, by decide⟩ ?_) | (refine o_mul (cmul ?_ ?_ ?_ ?_) ?_; (· omega); (· omega); (· omega); (· omega)) | (refine o_div (cdiv ?_ ?_) ?_; (· omega); (· omega)) | (refine if_tc ?_ ?_; · (first | rfl | (simp; done) | (simp; omega))) | (refine if_fc ?_ ?_; · (first | rfl | (simp; done) | (simp; omega))))
  have ra : r ≠ a := fun z => by
    rw [← z, tupd_same] at ha
    cases ha
  have rp : r ≠ p := fun z => by
    rw [← z, tupd_ne ra, tupd_same] at hp
    cases hp
  refine d_go4' ((tupd_ne rp).trans ((tupd_ne ra).trans tupd_same)) ?_
  refine h _ _ ⟨p, 0, 0, 0, ns ++ [0], tupd_same, rp.symm, (tupd_ne rp.symm).trans (by rw [tupd_same]; simp), by simp, by simp; omega, by omega, by omega, by omega, by omega⟩
abbrev sp_is_whole : TSp := spWhole
def G_is_whole : GE := gOf [] [] []
theorem bd_is_whole {w : Nat → WP} (hw : Steps w) {v0 v1 v2 : TV} {H : TH} {E : TX} {Q : TQ} (h : sp_is_whole [v0, v1, v2] H E Q) : blockW ((w 40).s S_is_whole G_is_whole) (defBody st_is_whole) ⟨fun _ H => Q .non H, Q, fun _ _ => False, fun _ _ => False, fun e _ H => E e H⟩ [some v0, some v1, some v2] H := by
  obtain ⟨x, lo, hi, e, hk, h⟩ := h
  cases e
  refine b_cons ?_
  cases v0
  all_goals
    repeat' (first | (with_reducible first | (refine isE ?_; first | refine x_is_whole_0 hw ?_ | refine x_is_whole_1 hw ?_ | refine x_is_whole_2 hw ?_ | refine e_bf hw g_is_whole_int b_int (by decide +kernel) (by decide +kernel) ?_ | refine e_none hw ?_ | refine e_bool hw ?_ | refine e_int hw ?_ | refine e_str hw ?_ | refine e_bin hw ?_ | refine e_una hw ?_ | refine e_and hw ?_ | refine e_or hw ?_ | refine e_ife hw ?_ | refine e_cmp hw ?_ | refine e_cmp2 hw ?_ | refine e_sub hw ?_ | refine e_sl hw ?_ | refine e_tup hw ?_ | refine e_lst hw ?_ | refine e_dct hw ?_ | refine e_isi hw g_is_whole_isinstance g_is_whole_int nm_int (by decide) (by decide +kernel) ?_ | refine e_isi hw g_is_whole_isinstance g_is_whole_bool nm_bool (by decide) (by decide +kernel) ?_) | (refine isT ?_; first | refine t_not hw ?_ | refine t_and hw ?_ | refine t_or hw ?_ | refine t_cmp hw ?_ | refine t_cmp2 hw ?_ | refine t_name hw ?_ | refine t_call hw ?_ | refine t_sub hw ?_) | (refine isS ?_; first | refine s_ret' hw ?_ | refine s_pass' hw ?_ | refine s_brk' hw ?_ | refine s_cnt' hw ?_ | refine s_exp' hw ?_ | refine s_if' hw ?_ | refine s_put' hw ?_ | refine s_for' hw ?_ (hc := cm_is_whole) | refine y_is_whole_0 hw ?_ | refine y_is_whole_1 hw ?_ | refine y_is_whole_2 hw ?_) | (refine isG ?_; first | refine g_sb hw ?_ (hc := cm_is_whole) | refine g_tp2 hw ?_ (hc := cm_is_whole) | refine z_is_whole_0 hw ?_ | refine z_is_whole_1 hw ?_ | refine z_is_whole_2 hw ?_) | (refine isI ?_; first | refine i_name hw ?_ | refine i_tup' hw ?_ | refine i_lst' hw ?_) | refine e_and1 ?_ | refine e_and2 ?_ | refine e_or1 ?_ | refine e_or2 ?_ | refine o_none ?_ | refine o_some ?_ | refine p_nil ?_ | refine p_cons ?_ | refine a_nil ?_ | refine a_cons ?_ | refine t_and1 ?_ | refine t_and2 ?_ | refine t_or1 ?_ | refine t_or2 ?_ | refine k_bl ?_ | refine k_int ?_ | refine nd_tru ?_ | refine if_t ?_ | refine if_f ?_ | refine b_nil ?_ | refine b_cons ?_ | refine g_nil ?_ | refine g_cons ?_ | refine o_add ?_ | refine o_sub ?_ | refine o_neg ?_ | refine o_nt ?_ | refine c_lt ?_ | refine c_le ?_ | refine c_gt ?_ | refine c_ge ?_ | refine c_eqI ?_ | refine c_eqS ?_ | refine c_neS ?_ | refine c_neI ?_ | refine c_eqB ?_ | refine if_tc (by decide +kernel) ?_ | refine if_fc (by decide +kernel) ?_ | refine ne_c ?_ | refine isi_non_int ?_ | refine isi_non_bool ?_ | refine isi_bl_int ?_ | refine isi_bl_bool ?_ | refine isi_int_int ?_ | refine isi_int_bool ?_ | refine isi_str_int ?_ | refine isi_str_bool ?_ | refine isi_tup_int ?_ | refine isi_tup_bool ?_ | refine isi_rol_int ?_ | refine isi_rol_bool ?_ | refine isi_ref (by assumption) (by decide) ?_ | refine c_leB1 ?_ | refine c_leB2 ?_ | refine c_in2 ?_ | refine c_in3 ?_ | refine c_in4 ?_ | refine c_in5 ?_ | refine c_ni2 ?_ | refine c_ni4 ?_ | refine c_ni5 ?_ | refine c_eqT0 ?_ | refine c_eqT1 ?_ | refine l_tup ?_ | refine l_rol ?_ | refine l_ref (by assumption) ?_ | refine x_d0 (by assumption) ?_ | refine x_d1 (by assumption) ?_ | refine x_d2 (by assumption) ?_ | refine x_d3 (by assumption) ?_ | refine x_d0 tupd_same ?_ | refine x_d1 tupd_same ?_ | refine x_d2 tupd_same ?_ | refine x_d3 tupd_same ?_ | refine d_go4 ?_ | refine r_bl ?_ | refine r_bl4 (by assumption) ?_ | refine r_bl4 tupd_same ?_ | refine m_min ?_ | refine m_max ?_ | refine m_abs ?_ | refine x_t0 ?_ | refine x_t1 ?_ | refine x_t2 ?_) | (refine len_go ?_ ?_; · (simp; done)) | (refine o_mod ?_ ?_; · (first | decide | omega)) | (refine o_pow ⟨by decide, by decide, by decide⟩ ?_) | (refine o_mul (cmul ?_ ?_ ?_ ?_) ?_; (· omega); (· omega); (· omega); (· omega)) | (refine o_div (cdiv ?_ ?_) ?_; (· omega); (· omega)) | (refine if_tc ?_ ?_; · (first | rfl | (simp; done) | (simp; omega))) | (refine if_fc ?_ ?_; · (first | rfl | (simp; done) | (simp; omega))) | refine if_c (fun _ => ?_) (fun _ => ?_) | intro _ _)
  all_goals (refine bl_of h ?_; clear h; simp_all [isW] <;> omega)
abbrev sp_is_number : TSp := spk isN
def G_is_number : GE := gOf [("is_whole", sp_is_whole)] [("MOST", (.int (1000)))] []
theorem c_is_number_is_whole : G_is_number.fn "is_whole" = some (sp_is_whole) := by kernel_rfl
theorem w_is_number_is_whole {w : Nat → WP} {n : Nat} {σ : TSt} {H : TH} {E : TX} {Q : TQ} {p pos : Pos} {es : List Expr} (hw : Steps w) (h : argsW ((w n).e S_is_number G_is_number) es σ H E fun xs H1 => sp_is_whole xs H1 E Q) (hi : noIsi "is_whole" es = true := by decide +kernel) (hs : noStars es = true := by decide +kernel) : (w (n + 1)).e S_is_number G_is_number (.Call (.Name "is_whole" p) es [] pos) σ H E Q := e_call hw g_is_number_is_whole (by kernel_rfl) hi c_is_number_is_whole hs h
theorem k_is_number_MOST : G_is_number.con "MOST" = some (.int (1000)) := by kernel_rfl
theorem bd_is_number {w : Nat → WP} (hw : Steps w) {v0 : TV} {H : TH} {E : TX} {Q : TQ} (h : sp_is_number [v0] H E Q) : blockW ((w 40).s S_is_number G_is_number) (defBody st_is_number) ⟨fun _ H => Q .non H, Q, fun _ _ => False, fun _ _ => False, fun e _ H => E e H⟩ [some v0] H := by
  obtain ⟨x, e, hk, h⟩ := h
  cases e
  refine b_cons ?_
  repeat' (first | (with_reducible first | refine u_whole (by first | assumption | exact kn_int | exact kn_str | exact kn_bl | exact kn_non | exact kn_tup | exact kn_rol) ?_ | (refine isE ?_; first | refine x_is_number_0 hw ?_ | refine w_is_number_is_whole hw ?_ | refine e_con hw g_is_number_MOST k_is_number_MOST ?_ | refine e_none hw ?_ | refine e_bool hw ?_ | refine e_int hw ?_ | refine e_str hw ?_ | refine e_bin hw ?_ | refine e_una hw ?_ | refine e_and hw ?_ | refine e_or hw ?_ | refine e_ife hw ?_ | refine e_cmp hw ?_ | refine e_cmp2 hw ?_ | refine e_sub hw ?_ | refine e_sl hw ?_ | refine e_tup hw ?_ | refine e_lst hw ?_ | refine e_dct hw ?_) | (refine isT ?_; first | refine t_not hw ?_ | refine t_and hw ?_ | refine t_or hw ?_ | refine t_cmp hw ?_ | refine t_cmp2 hw ?_ | refine t_name hw ?_ | refine t_call hw ?_ | refine t_sub hw ?_) | (refine isS ?_; first | refine s_ret' hw ?_ | refine s_pass' hw ?_ | refine s_brk' hw ?_ | refine s_cnt' hw ?_ | refine s_exp' hw ?_ | refine s_if' hw ?_ | refine s_put' hw ?_ | refine s_for' hw ?_ (hc := cm_is_number) | refine y_is_number_0 hw ?_) | (refine isG ?_; first | refine g_sb hw ?_ (hc := cm_is_number) | refine g_tp2 hw ?_ (hc := cm_is_number) | refine z_is_number_0 hw ?_) | (refine isI ?_; first | refine i_name hw ?_ | refine i_tup' hw ?_ | refine i_lst' hw ?_) | refine e_and1 ?_ | refine e_and2 ?_ | refine e_or1 ?_ | refine e_or2 ?_ | refine o_none ?_ | refine o_some ?_ | refine p_nil ?_ | refine p_cons ?_ | refine a_nil ?_ | refine a_cons ?_ | refine t_and1 ?_ | refine t_and2 ?_ | refine t_or1 ?_ | refine t_or2 ?_ | refine k_bl ?_ | refine k_int ?_ | refine nd_tru ?_ | refine if_t ?_ | refine if_f ?_ | refine b_nil ?_ | refine b_cons ?_ | refine g_nil ?_ | refine g_cons ?_ | refine o_add ?_ | refine o_sub ?_ | refine o_neg ?_ | refine o_nt ?_ | refine c_lt ?_ | refine c_le ?_ | refine c_gt ?_ | refine c_ge ?_ | refine c_eqI ?_ | refine c_eqS ?_ | refine c_neS ?_ | refine c_neI ?_ | refine c_eqB ?_ | refine if_tc (by decide +kernel) ?_ | refine if_fc (by decide +kernel) ?_ | refine ne_c ?_ | refine c_leB1 ?_ | refine c_leB2 ?_ | refine c_in2 ?_ | refine c_in3 ?_ | refine c_in4 ?_ | refine c_in5 ?_ | refine c_ni2 ?_ | refine c_ni4 ?_ | refine c_ni5 ?_ | refine c_eqT0 ?_ | refine c_eqT1 ?_ | refine l_tup ?_ | refine l_rol ?_ | refine l_ref (by assumption) ?_ | refine x_d0 (by assumption) ?_ | refine x_d1 (by assumption) ?_ | refine x_d2 (by assumption) ?_ | refine x_d3 (by assumption) ?_ | refine x_d0 tupd_same ?_ | refine x_d1 tupd_same ?_ | refine x_d2 tupd_same ?_ | refine x_d3 tupd_same ?_ | refine d_go4 ?_ | refine r_bl ?_ | refine r_bl4 (by assumption) ?_ | refine r_bl4 tupd_same ?_ | refine m_min ?_ | refine m_max ?_ | refine m_abs ?_ | refine x_t0 ?_ | refine x_t1 ?_ | refine x_t2 ?_) | (refine len_go ?_ ?_; · (simp; done)) | (refine o_mod ?_ ?_; · (first | decide | omega)) | (refine o_pow ⟨by decide, by decide, by decide⟩ ?_) | (refine o_mul (cmul ?_ ?_ ?_ ?_) ?_; (· omega); (· omega); (· omega); (· omega)) | (refine o_div (cdiv ?_ ?_) ?_; (· omega); (· omega)) | (refine if_tc ?_ ?_; · (first | rfl | (simp; done) | (simp; omega))) | (refine if_fc ?_ ?_; · (first | rfl | (simp; done) | (simp; omega))) | refine if_c (fun _ => ?_) (fun _ => ?_) | intro _ _)
  exact h
abbrev sp_is_word_of : TSp := spWordOf
def G_is_word_of : GE := gOf [] [] []
theorem bd_is_word_of {w : Nat → WP} (hw : Steps w) {v0 v1 : TV} {H : TH} {E : TX} {Q : TQ} (h : sp_is_word_of [v0, v1] H E Q) : blockW ((w 40).s S_is_word_of G_is_word_of) (defBody st_is_word_of) ⟨fun _ H => Q .non H, Q, fun _ _ => False, fun _ _ => False, fun e _ H => E e H⟩ [some v0, some v1] H := by
  obtain ⟨x, ws, e, hk, h⟩ := h
  cases e
  refine b_cons ?_
  cases v0
  all_goals
    repeat' (first | (with_reducible first | refine c_inS _ ?_ | (refine isE ?_; first | refine x_is_word_of_0 hw ?_ | refine x_is_word_of_1 hw ?_ | refine e_bf hw g_is_word_of_str b_str (by decide +kernel) (by decide +kernel) ?_ | refine e_none hw ?_ | refine e_bool hw ?_ | refine e_int hw ?_ | refine e_str hw ?_ | refine e_bin hw ?_ | refine e_una hw ?_ | refine e_and hw ?_ | refine e_or hw ?_ | refine e_ife hw ?_ | refine e_cmp hw ?_ | refine e_cmp2 hw ?_ | refine e_sub hw ?_ | refine e_sl hw ?_ | refine e_tup hw ?_ | refine e_lst hw ?_ | refine e_dct hw ?_ | refine e_isi hw g_is_word_of_isinstance g_is_word_of_str nm_str (by decide) (by decide +kernel) ?_) | (refine isT ?_; first | refine t_not hw ?_ | refine t_and hw ?_ | refine t_or hw ?_ | refine t_cmp hw ?_ | refine t_cmp2 hw ?_ | refine t_name hw ?_ | refine t_call hw ?_ | refine t_sub hw ?_) | (refine isS ?_; first | refine s_ret' hw ?_ | refine s_pass' hw ?_ | refine s_brk' hw ?_ | refine s_cnt' hw ?_ | refine s_exp' hw ?_ | refine s_if' hw ?_ | refine s_put' hw ?_ | refine s_for' hw ?_ (hc := cm_is_word_of) | refine y_is_word_of_0 hw ?_ | refine y_is_word_of_1 hw ?_) | (refine isG ?_; first | refine g_sb hw ?_ (hc := cm_is_word_of) | refine g_tp2 hw ?_ (hc := cm_is_word_of) | refine z_is_word_of_0 hw ?_ | refine z_is_word_of_1 hw ?_) | (refine isI ?_; first | refine i_name hw ?_ | refine i_tup' hw ?_ | refine i_lst' hw ?_) | refine e_and1 ?_ | refine e_and2 ?_ | refine e_or1 ?_ | refine e_or2 ?_ | refine o_none ?_ | refine o_some ?_ | refine p_nil ?_ | refine p_cons ?_ | refine a_nil ?_ | refine a_cons ?_ | refine t_and1 ?_ | refine t_and2 ?_ | refine t_or1 ?_ | refine t_or2 ?_ | refine k_bl ?_ | refine k_int ?_ | refine nd_tru ?_ | refine if_t ?_ | refine if_f ?_ | refine b_nil ?_ | refine b_cons ?_ | refine g_nil ?_ | refine g_cons ?_ | refine o_add ?_ | refine o_sub ?_ | refine o_neg ?_ | refine o_nt ?_ | refine c_lt ?_ | refine c_le ?_ | refine c_gt ?_ | refine c_ge ?_ | refine c_eqI ?_ | refine c_eqS ?_ | refine c_neS ?_ | refine c_neI ?_ | refine c_eqB ?_ | refine if_tc (by decide +kernel) ?_ | refine if_fc (by decide +kernel) ?_ | refine ne_c ?_ | refine isi_non_str ?_ | refine isi_bl_str ?_ | refine isi_int_str ?_ | refine isi_str_str ?_ | refine isi_tup_str ?_ | refine isi_rol_str ?_ | refine isi_ref (by assumption) (by decide) ?_ | refine c_leB1 ?_ | refine c_leB2 ?_ | refine c_in2 ?_ | refine c_in3 ?_ | refine c_in4 ?_ | refine c_in5 ?_ | refine c_ni2 ?_ | refine c_ni4 ?_ | refine c_ni5 ?_ | refine c_eqT0 ?_ | refine c_eqT1 ?_ | refine l_tup ?_ | refine l_rol ?_ | refine l_ref (by assumption) ?_ | refine x_d0 (by assumption) ?_ | refine x_d1 (by assumption) ?_ | refine x_d2 (by assumption) ?_ | refine x_d3 (by assumption) ?_ | refine x_d0 tupd_same ?_ | refine x_d1 tupd_same ?_ | refine x_d2 tupd_same ?_ | refine x_d3 tupd_same ?_ | refine d_go4 ?_ | refine r_bl ?_ | refine r_bl4 (by assumption) ?_ | refine r_bl4 tupd_same ?_ | refine m_min ?_ | refine m_max ?_ | refine m_abs ?_ | refine x_t0 ?_ | refine x_t1 ?_ | refine x_t2 ?_) | (refine len_go ?_ ?_; · (simp; done)) | (refine o_mod ?_ ?_; · (first | decide | omega)) | (refine o_pow ⟨by decide, by decide, by decide⟩ ?_) | (refine o_mul (cmul ?_ ?_ ?_ ?_) ?_; (· omega); (· omega); (· omega); (· omega)) | (refine o_div (cdiv ?_ ?_) ?_; (· omega); (· omega)) | (refine if_tc ?_ ?_; · (first | rfl | (simp; done) | (simp; omega))) | (refine if_fc ?_ ?_; · (first | rfl | (simp; done) | (simp; omega))) | refine if_c (fun _ => ?_) (fun _ => ?_) | intro _ _)
  all_goals exact h
abbrev sp_is_op : TSp := spk isOp
def G_is_op : GE := gOf [("is_word_of", sp_is_word_of)] [("OPS", (.tup [(.str "add"), (.str "less"), (.str "least"), (.str "most")]))] []
theorem c_is_op_is_word_of : G_is_op.fn "is_word_of" = some (sp_is_word_of) := by kernel_rfl
theorem w_is_op_is_word_of {w : Nat → WP} {n : Nat} {σ : TSt} {H : TH} {E : TX} {Q : TQ} {p pos : Pos} {es : List Expr} (hw : Steps w) (h : argsW ((w n).e S_is_op G_is_op) es σ H E fun xs H1 => sp_is_word_of xs H1 E Q) (hi : noIsi "is_word_of" es = true := by decide +kernel) (hs : noStars es = true := by decide +kernel) : (w (n + 1)).e S_is_op G_is_op (.Call (.Name "is_word_of" p) es [] pos) σ H E Q := e_call hw g_is_op_is_word_of (by kernel_rfl) hi c_is_op_is_word_of hs h
theorem k_is_op_OPS : G_is_op.con "OPS" = some (.tup [(.str "add"), (.str "less"), (.str "least"), (.str "most")]) := by kernel_rfl
theorem bd_is_op {w : Nat → WP} (hw : Steps w) {v0 : TV} {H : TH} {E : TX} {Q : TQ} (h : sp_is_op [v0] H E Q) : blockW ((w 40).s S_is_op G_is_op) (defBody st_is_op) ⟨fun _ H => Q .non H, Q, fun _ _ => False, fun _ _ => False, fun e _ H => E e H⟩ [some v0] H := by
  obtain ⟨x, e, hk, h⟩ := h
  cases e
  refine b_cons ?_
  repeat' (first | (with_reducible first | refine u_word4 (by first | assumption | exact kn_int | exact kn_str | exact kn_bl | exact kn_non | exact kn_tup | exact kn_rol) ?_ | (refine isE ?_; first | refine x_is_op_0 hw ?_ | refine w_is_op_is_word_of hw ?_ | refine e_con hw g_is_op_OPS k_is_op_OPS ?_ | refine e_none hw ?_ | refine e_bool hw ?_ | refine e_int hw ?_ | refine e_str hw ?_ | refine e_bin hw ?_ | refine e_una hw ?_ | refine e_and hw ?_ | refine e_or hw ?_ | refine e_ife hw ?_ | refine e_cmp hw ?_ | refine e_cmp2 hw ?_ | refine e_sub hw ?_ | refine e_sl hw ?_ | refine e_tup hw ?_ | refine e_lst hw ?_ | refine e_dct hw ?_) | (refine isT ?_; first | refine t_not hw ?_ | refine t_and hw ?_ | refine t_or hw ?_ | refine t_cmp hw ?_ | refine t_cmp2 hw ?_ | refine t_name hw ?_ | refine t_call hw ?_ | refine t_sub hw ?_) | (refine isS ?_; first | refine s_ret' hw ?_ | refine s_pass' hw ?_ | refine s_brk' hw ?_ | refine s_cnt' hw ?_ | refine s_exp' hw ?_ | refine s_if' hw ?_ | refine s_put' hw ?_ | refine s_for' hw ?_ (hc := cm_is_op) | refine y_is_op_0 hw ?_) | (refine isG ?_; first | refine g_sb hw ?_ (hc := cm_is_op) | refine g_tp2 hw ?_ (hc := cm_is_op) | refine z_is_op_0 hw ?_) | (refine isI ?_; first | refine i_name hw ?_ | refine i_tup' hw ?_ | refine i_lst' hw ?_) | refine e_and1 ?_ | refine e_and2 ?_ | refine e_or1 ?_ | refine e_or2 ?_ | refine o_none ?_ | refine o_some ?_ | refine p_nil ?_ | refine p_cons ?_ | refine a_nil ?_ | refine a_cons ?_ | refine t_and1 ?_ | refine t_and2 ?_ | refine t_or1 ?_ | refine t_or2 ?_ | refine k_bl ?_ | refine k_int ?_ | refine nd_tru ?_ | refine if_t ?_ | refine if_f ?_ | refine b_nil ?_ | refine b_cons ?_ | refine g_nil ?_ | refine g_cons ?_ | refine o_add ?_ | refine o_sub ?_ | refine o_neg ?_ | refine o_nt ?_ | refine c_lt ?_ | refine c_le ?_ | refine c_gt ?_ | refine c_ge ?_ | refine c_eqI ?_ | refine c_eqS ?_ | refine c_neS ?_ | refine c_neI ?_ | refine c_eqB ?_ | refine if_tc (by decide +kernel) ?_ | refine if_fc (by decide +kernel) ?_ | refine ne_c ?_ | refine c_leB1 ?_ | refine c_leB2 ?_ | refine c_in2 ?_ | refine c_in3 ?_ | refine c_in4 ?_ | refine c_in5 ?_ | refine c_ni2 ?_ | refine c_ni4 ?_ | refine c_ni5 ?_ | refine c_eqT0 ?_ | refine c_eqT1 ?_ | refine l_tup ?_ | refine l_rol ?_ | refine l_ref (by assumption) ?_ | refine x_d0 (by assumption) ?_ | refine x_d1 (by assumption) ?_ | refine x_d2 (by assumption) ?_ | refine x_d3 (by assumption) ?_ | refine x_d0 tupd_same ?_ | refine x_d1 tupd_same ?_ | refine x_d2 tupd_same ?_ | refine x_d3 tupd_same ?_ | refine d_go4 ?_ | refine r_bl ?_ | refine r_bl4 (by assumption) ?_ | refine r_bl4 tupd_same ?_ | refine m_min ?_ | refine m_max ?_ | refine m_abs ?_ | refine x_t0 ?_ | refine x_t1 ?_ | refine x_t2 ?_) | (refine len_go ?_ ?_; · (simp; done)) | (refine o_mod ?_ ?_; · (first | decide | omega)) | (refine o_pow ⟨by decide, by decide, by decide⟩ ?_) | (refine o_mul (cmul ?_ ?_ ?_ ?_) ?_; (· omega); (· omega); (· omega); (· omega)) | (refine o_div (cdiv ?_ ?_) ?_; (· omega); (· omega)) | (refine if_tc ?_ ?_; · (first | rfl | (simp; done) | (simp; omega))) | (refine if_fc ?_ ?_; · (first | rfl | (simp; done) | (simp; omega))) | refine if_c (fun _ => ?_) (fun _ => ?_) | intro _ _)
  exact h
abbrev sp_is_test : TSp := sp1 isTest
def G_is_test : GE := gOf [("is_word_of", sp_is_word_of), ("is_number", sp_is_number)] [("TESTS", (.tup [(.str "over"), (.str "under"), (.str "even"), (.str "odd")]))] []
theorem c_is_test_is_word_of : G_is_test.fn "is_word_of" = some (sp_is_word_of) := by kernel_rfl
theorem c_is_test_is_number : G_is_test.fn "is_number" = some (sp_is_number) := by kernel_rfl
theorem w_is_test_is_word_of {w : Nat → WP} {n : Nat} {σ : TSt} {H : TH} {E : TX} {Q : TQ} {p pos : Pos} {es : List Expr} (hw : Steps w) (h : argsW ((w n).e S_is_test G_is_test) es σ H E fun xs H1 => sp_is_word_of xs H1 E Q) (hi : noIsi "is_word_of" es = true := by decide +kernel) (hs : noStars es = true := by decide +kernel) : (w (n + 1)).e S_is_test G_is_test (.Call (.Name "is_word_of" p) es [] pos) σ H E Q := e_call hw g_is_test_is_word_of (by kernel_rfl) hi c_is_test_is_word_of hs h
theorem w_is_test_is_number {w : Nat → WP} {n : Nat} {σ : TSt} {H : TH} {E : TX} {Q : TQ} {p pos : Pos} {es : List Expr} (hw : Steps w) (h : argsW ((w n).e S_is_test G_is_test) es σ H E fun xs H1 => sp_is_number xs H1 E Q) (hi : noIsi "is_number" es = true := by decide +kernel) (hs : noStars es = true := by decide +kernel) : (w (n + 1)).e S_is_test G_is_test (.Call (.Name "is_number" p) es [] pos) σ H E Q := e_call hw g_is_test_is_number (by kernel_rfl) hi c_is_test_is_number hs h
theorem k_is_test_TESTS : G_is_test.con "TESTS" = some (.tup [(.str "over"), (.str "under"), (.str "even"), (.str "odd")]) := by kernel_rfl
theorem bd_is_test {w : Nat → WP} (hw : Steps w) {v0 : TV} {H : TH} {E : TX} {Q : TQ} (h : sp_is_test [v0] H E Q) : blockW ((w 40).s S_is_test G_is_test) (defBody st_is_test) ⟨fun _ H => Q .non H, Q, fun _ _ => False, fun _ _ => False, fun e _ H => E e H⟩ [some v0] H := by
  obtain ⟨x, e, hk, h⟩ := h
  cases e
  refine b_cons ?_
  have hk0 := hk.kn
  cases v0
  case tup l =>
    match l, hk, h with
    | [], hk, h =>
      repeat' (first | (with_reducible first | (refine isE ?_; first | refine x_is_test_0 hw ?_ | refine e_bf hw g_is_test_tuple b_tuple (by decide +kernel) (by decide +kernel) ?_ | refine w_is_test_is_word_of hw ?_ | refine e_con hw g_is_test_TESTS k_is_test_TESTS ?_ | refine e_bf hw g_is_test_len b_len (by decide +kernel) (by decide +kernel) ?_ | refine w_is_test_is_number hw ?_ | refine e_none hw ?_ | refine e_bool hw ?_ | refine e_int hw ?_ | refine e_str hw ?_ | refine e_bin hw ?_ | refine e_una hw ?_ | refine e_and hw ?_ | refine e_or hw ?_ | refine e_ife hw ?_ | refine e_cmp hw ?_ | refine e_cmp2 hw ?_ | refine e_sub hw ?_ | refine e_sl hw ?_ | refine e_tup hw ?_ | refine e_lst hw ?_ | refine e_dct hw ?_ | refine e_isi hw g_is_test_isinstance g_is_test_tuple nm_tuple (by decide) (by decide +kernel) ?_) | (refine isT ?_; first | refine t_not hw ?_ | refine t_and hw ?_ | refine t_or hw ?_ | refine t_cmp hw ?_ | refine t_cmp2 hw ?_ | refine t_name hw ?_ | refine t_call hw ?_ | refine t_sub hw ?_) | (refine isS ?_; first | refine s_ret' hw ?_ | refine s_pass' hw ?_ | refine s_brk' hw ?_ | refine s_cnt' hw ?_ | refine s_exp' hw ?_ | refine s_if' hw ?_ | refine s_put' hw ?_ | refine s_for' hw ?_ (hc := cm_is_test) | refine y_is_test_0 hw ?_) | (refine isG ?_; first | refine g_sb hw ?_ (hc := cm_is_test) | refine g_tp2 hw ?_ (hc := cm_is_test) | refine z_is_test_0 hw ?_) | (refine isI ?_; first | refine i_name hw ?_ | refine i_tup' hw ?_ | refine i_lst' hw ?_) | refine e_and1 ?_ | refine e_and2 ?_ | refine e_or1 ?_ | refine e_or2 ?_ | refine o_none ?_ | refine o_some ?_ | refine p_nil ?_ | refine p_cons ?_ | refine a_nil ?_ | refine a_cons ?_ | refine t_and1 ?_ | refine t_and2 ?_ | refine t_or1 ?_ | refine t_or2 ?_ | refine k_bl ?_ | refine k_int ?_ | refine nd_tru ?_ | refine if_t ?_ | refine if_f ?_ | refine b_nil ?_ | refine b_cons ?_ | refine g_nil ?_ | refine g_cons ?_ | refine o_add ?_ | refine o_sub ?_ | refine o_neg ?_ | refine o_nt ?_ | refine c_lt ?_ | refine c_le ?_ | refine c_gt ?_ | refine c_ge ?_ | refine c_eqI ?_ | refine c_eqS ?_ | refine c_neS ?_ | refine c_neI ?_ | refine c_eqB ?_ | refine if_tc (by decide +kernel) ?_ | refine if_fc (by decide +kernel) ?_ | refine ne_c ?_ | refine isi_non_tuple ?_ | refine isi_bl_tuple ?_ | refine isi_int_tuple ?_ | refine isi_str_tuple ?_ | refine isi_tup_tuple ?_ | refine isi_rol_tuple ?_ | refine isi_ref (by assumption) (by decide) ?_ | refine c_leB1 ?_ | refine c_leB2 ?_ | refine c_in2 ?_ | refine c_in3 ?_ | refine c_in4 ?_ | refine c_in5 ?_ | refine c_ni2 ?_ | refine c_ni4 ?_ | refine c_ni5 ?_ | refine c_eqT0 ?_ | refine c_eqT1 ?_ | refine l_tup ?_ | refine l_rol ?_ | refine l_ref (by assumption) ?_ | refine x_d0 (by assumption) ?_ | refine x_d1 (by assumption) ?_ | refine x_d2 (by assumption) ?_ | refine x_d3 (by assumption) ?_ | refine x_d0 tupd_same ?_ | refine x_d1 tupd_same ?_ | refine x_d2 tupd_same ?_ | refine x_d3 tupd_same ?_ | refine d_go4 ?_ | refine r_bl ?_ | refine r_bl4 (by assumption) ?_ | refine r_bl4 tupd_same ?_ | refine m_min ?_ | refine m_max ?_ | refine m_abs ?_ | refine x_t0 ?_ | refine x_t1 ?_ | refine x_t2 ?_) | (refine len_go ?_ ?_; · (simp; done)) | (refine o_mod ?_ ?_; · (first | decide | omega)) | (refine o_pow ⟨by decide, by decide, by decide⟩ ?_) | (refine o_mul (cmul ?_ ?_ ?_ ?_) ?_; (· omega); (· omega); (· omega); (· omega)) | (refine o_div (cdiv ?_ ?_) ?_; (· omega); (· omega)) | (refine if_tc ?_ ?_; · (first | rfl | (simp; done) | (simp; omega))) | (refine if_fc ?_ ?_; · (first | rfl | (simp; done) | (simp; omega))) | refine if_c (fun _ => ?_) (fun _ => ?_) | intro _ _)
      all_goals exact h
    | a :: r, hk, h =>
      have ka : Kn H a := (hk.at (by simp)).kn
      cases a
      case str y =>
        have h4 := @word4 y
        have he := @even2 y
        match r, hk, h with
        | [], hk, h =>
          repeat' (first | (with_reducible first | refine u_word4 (by first | assumption | exact kn_int | exact kn_str | exact kn_bl | exact kn_non | exact kn_tup | exact kn_rol) ?_ | refine uk (by first | assumption | exact kn_int | exact kn_str | exact kn_bl | exact kn_non | exact kn_tup | exact kn_rol) ?_ | (refine isE ?_; first | refine x_is_test_0 hw ?_ | refine e_bf hw g_is_test_tuple b_tuple (by decide +kernel) (by decide +kernel) ?_ | refine w_is_test_is_word_of hw ?_ | refine e_con hw g_is_test_TESTS k_is_test_TESTS ?_ | refine e_bf hw g_is_test_len b_len (by decide +kernel) (by decide +kernel) ?_ | refine w_is_test_is_number hw ?_ | refine e_none hw ?_ | refine e_bool hw ?_ | refine e_int hw ?_ | refine e_str hw ?_ | refine e_bin hw ?_ | refine e_una hw ?_ | refine e_and hw ?_ | refine e_or hw ?_ | refine e_ife hw ?_ | refine e_cmp hw ?_ | refine e_cmp2 hw ?_ | refine e_sub hw ?_ | refine e_sl hw ?_ | refine e_tup hw ?_ | refine e_lst hw ?_ | refine e_dct hw ?_ | refine e_isi hw g_is_test_isinstance g_is_test_tuple nm_tuple (by decide) (by decide +kernel) ?_) | (refine isT ?_; first | refine t_not hw ?_ | refine t_and hw ?_ | refine t_or hw ?_ | refine t_cmp hw ?_ | refine t_cmp2 hw ?_ | refine t_name hw ?_ | refine t_call hw ?_ | refine t_sub hw ?_) | (refine isS ?_; first | refine s_ret' hw ?_ | refine s_pass' hw ?_ | refine s_brk' hw ?_ | refine s_cnt' hw ?_ | refine s_exp' hw ?_ | refine s_if' hw ?_ | refine s_put' hw ?_ | refine s_for' hw ?_ (hc := cm_is_test) | refine y_is_test_0 hw ?_) | (refine isG ?_; first | refine g_sb hw ?_ (hc := cm_is_test) | refine g_tp2 hw ?_ (hc := cm_is_test) | refine z_is_test_0 hw ?_) | (refine isI ?_; first | refine i_name hw ?_ | refine i_tup' hw ?_ | refine i_lst' hw ?_) | refine e_and1 ?_ | refine e_and2 ?_ | refine e_or1 ?_ | refine e_or2 ?_ | refine o_none ?_ | refine o_some ?_ | refine p_nil ?_ | refine p_cons ?_ | refine a_nil ?_ | refine a_cons ?_ | refine t_and1 ?_ | refine t_and2 ?_ | refine t_or1 ?_ | refine t_or2 ?_ | refine k_bl ?_ | refine k_int ?_ | refine nd_tru ?_ | refine if_t ?_ | refine if_f ?_ | refine b_nil ?_ | refine b_cons ?_ | refine g_nil ?_ | refine g_cons ?_ | refine o_add ?_ | refine o_sub ?_ | refine o_neg ?_ | refine o_nt ?_ | refine c_lt ?_ | refine c_le ?_ | refine c_gt ?_ | refine c_ge ?_ | refine c_eqI ?_ | refine c_eqS ?_ | refine c_neS ?_ | refine c_neI ?_ | refine c_eqB ?_ | refine if_tc (by decide +kernel) ?_ | refine if_fc (by decide +kernel) ?_ | refine ne_c ?_ | refine isi_non_tuple ?_ | refine isi_bl_tuple ?_ | refine isi_int_tuple ?_ | refine isi_str_tuple ?_ | refine isi_tup_tuple ?_ | refine isi_rol_tuple ?_ | refine isi_ref (by assumption) (by decide) ?_ | refine c_leB1 ?_ | refine c_leB2 ?_ | refine c_in2 ?_ | refine c_in3 ?_ | refine c_in4 ?_ | refine c_in5 ?_ | refine c_ni2 ?_ | refine c_ni4 ?_ | refine c_ni5 ?_ | refine c_eqT0 ?_ | refine c_eqT1 ?_ | refine l_tup ?_ | refine l_rol ?_ | refine l_ref (by assumption) ?_ | refine x_d0 (by assumption) ?_ | refine x_d1 (by assumption) ?_ | refine x_d2 (by assumption) ?_ | refine x_d3 (by assumption) ?_ | refine x_d0 tupd_same ?_ | refine x_d1 tupd_same ?_ | refine x_d2 tupd_same ?_ | refine x_d3 tupd_same ?_ | refine d_go4 ?_ | refine r_bl ?_ | refine r_bl4 (by assumption) ?_ | refine r_bl4 tupd_same ?_ | refine m_min ?_ | refine m_max ?_ | refine m_abs ?_ | refine x_t0 ?_ | refine x_t1 ?_ | refine x_t2 ?_) | (refine len_go ?_ ?_; · (simp; done)) | (refine o_mod ?_ ?_; · (first | decide | omega)) | (refine o_pow ⟨by decide, by decide, by decide⟩ ?_) | (refine o_mul (cmul ?_ ?_ ?_ ?_) ?_; (· omega); (· omega); (· omega); (· omega)) | (refine o_div (cdiv ?_ ?_) ?_; (· omega); (· omega)) | (refine if_tc ?_ ?_; · (first | rfl | (simp; done) | (simp; omega))) | (refine if_fc ?_ ?_; · (first | rfl | (simp; done) | (simp; omega))) | refine if_c (fun _ => ?_) (fun _ => ?_) | intro _ _)
          all_goals (refine bl_of h ?_; clear h; cases q1 : inS y ["over", "under"] <;> cases q2 : inS y ["even", "odd"] <;> simp_all [isTest, wordIn])
        | [b], hk, h =>
          have kb : Kn H b := (hk.at (by simp)).kn
          repeat' (first | (with_reducible first | refine u_word4 (by first | assumption | exact kn_int | exact kn_str | exact kn_bl | exact kn_non | exact kn_tup | exact kn_rol) ?_ | refine uk (by first | assumption | exact kn_int | exact kn_str | exact kn_bl | exact kn_non | exact kn_tup | exact kn_rol) ?_ | (refine isE ?_; first | refine x_is_test_0 hw ?_ | refine e_bf hw g_is_test_tuple b_tuple (by decide +kernel) (by decide +kernel) ?_ | refine w_is_test_is_word_of hw ?_ | refine e_con hw g_is_test_TESTS k_is_test_TESTS ?_ | refine e_bf hw g_is_test_len b_len (by decide +kernel) (by decide +kernel) ?_ | refine w_is_test_is_number hw ?_ | refine e_none hw ?_ | refine e_bool hw ?_ | refine e_int hw ?_ | refine e_str hw ?_ | refine e_bin hw ?_ | refine e_una hw ?_ | refine e_and hw ?_ | refine e_or hw ?_ | refine e_ife hw ?_ | refine e_cmp hw ?_ | refine e_cmp2 hw ?_ | refine e_sub hw ?_ | refine e_sl hw ?_ | refine e_tup hw ?_ | refine e_lst hw ?_ | refine e_dct hw ?_ | refine e_isi hw g_is_test_isinstance g_is_test_tuple nm_tuple (by decide) (by decide +kernel) ?_) | (refine isT ?_; first | refine t_not hw ?_ | refine t_and hw ?_ | refine t_or hw ?_ | refine t_cmp hw ?_ | refine t_cmp2 hw ?_ | refine t_name hw ?_ | refine t_call hw ?_ | refine t_sub hw ?_) | (refine isS ?_; first | refine s_ret' hw ?_ | refine s_pass' hw ?_ | refine s_brk' hw ?_ | refine s_cnt' hw ?_ | refine s_exp' hw ?_ | refine s_if' hw ?_ | refine s_put' hw ?_ | refine s_for' hw ?_ (hc := cm_is_test) | refine y_is_test_0 hw ?_) | (refine isG ?_; first | refine g_sb hw ?_ (hc := cm_is_test) | refine g_tp2 hw ?_ (hc := cm_is_test) | refine z_is_test_0 hw ?_) | (refine isI ?_; first | refine i_name hw ?_ | refine i_tup' hw ?_ | refine i_lst' hw ?_) | refine e_and1 ?_ | refine e_and2 ?_ | refine e_or1 ?_ | refine e_or2 ?_ | refine o_none ?_ | refine o_some ?_ | refine p_nil ?_ | refine p_cons ?_ | refine a_nil ?_ | refine a_cons ?_ | refine t_and1 ?_ | refine t_and2 ?_ | refine t_or1 ?_ | refine t_or2 ?_ | refine k_bl ?_ | refine k_int ?_ | refine nd_tru ?_ | refine if_t ?_ | refine if_f ?_ | refine b_nil ?_ | refine b_cons ?_ | refine g_nil ?_ | refine g_cons ?_ | refine o_add ?_ | refine o_sub ?_ | refine o_neg ?_ | refine o_nt ?_ | refine c_lt ?_ | refine c_le ?_ | refine c_gt ?_ | refine c_ge ?_ | refine c_eqI ?_ | refine c_eqS ?_ | refine c_neS ?_ | refine c_neI ?_ | refine c_eqB ?_ | refine if_tc (by decide +kernel) ?_ | refine if_fc (by decide +kernel) ?_ | refine ne_c ?_ | refine isi_non_tuple ?_ | refine isi_bl_tuple ?_ | refine isi_int_tuple ?_ | refine isi_str_tuple ?_ | refine isi_tup_tuple ?_ | refine isi_rol_tuple ?_ | refine isi_ref (by assumption) (by decide) ?_ | refine c_leB1 ?_ | refine c_leB2 ?_ | refine c_in2 ?_ | refine c_in3 ?_ | refine c_in4 ?_ | refine c_in5 ?_ | refine c_ni2 ?_ | refine c_ni4 ?_ | refine c_ni5 ?_ | refine c_eqT0 ?_ | refine c_eqT1 ?_ | refine l_tup ?_ | refine l_rol ?_ | refine l_ref (by assumption) ?_ | refine x_d0 (by assumption) ?_ | refine x_d1 (by assumption) ?_ | refine x_d2 (by assumption) ?_ | refine x_d3 (by assumption) ?_ | refine x_d0 tupd_same ?_ | refine x_d1 tupd_same ?_ | refine x_d2 tupd_same ?_ | refine x_d3 tupd_same ?_ | refine d_go4 ?_ | refine r_bl ?_ | refine r_bl4 (by assumption) ?_ | refine r_bl4 tupd_same ?_ | refine m_min ?_ | refine m_max ?_ | refine m_abs ?_ | refine x_t0 ?_ | refine x_t1 ?_ | refine x_t2 ?_) | (refine len_go ?_ ?_; · (simp; done)) | (refine o_mod ?_ ?_; · (first | decide | omega)) | (refine o_pow ⟨by decide, by decide, by decide⟩ ?_) | (refine o_mul (cmul ?_ ?_ ?_ ?_) ?_; (· omega); (· omega); (· omega); (· omega)) | (refine o_div (cdiv ?_ ?_) ?_; (· omega); (· omega)) | (refine if_tc ?_ ?_; · (first | rfl | (simp; done) | (simp; omega))) | (refine if_fc ?_ ?_; · (first | rfl | (simp; done) | (simp; omega))) | refine if_c (fun _ => ?_) (fun _ => ?_) | intro _ _)
          all_goals (refine bl_of h ?_; clear h; cases q1 : inS y ["over", "under"] <;> cases q2 : inS y ["even", "odd"] <;> simp_all [isTest, wordIn])
        | b :: c :: r, hk, h =>
          repeat' (first | (with_reducible first | refine u_word4 (by first | assumption | exact kn_int | exact kn_str | exact kn_bl | exact kn_non | exact kn_tup | exact kn_rol) ?_ | refine uk (by first | assumption | exact kn_int | exact kn_str | exact kn_bl | exact kn_non | exact kn_tup | exact kn_rol) ?_ | (refine isE ?_; first | refine x_is_test_0 hw ?_ | refine e_bf hw g_is_test_tuple b_tuple (by decide +kernel) (by decide +kernel) ?_ | refine w_is_test_is_word_of hw ?_ | refine e_con hw g_is_test_TESTS k_is_test_TESTS ?_ | refine e_bf hw g_is_test_len b_len (by decide +kernel) (by decide +kernel) ?_ | refine w_is_test_is_number hw ?_ | refine e_none hw ?_ | refine e_bool hw ?_ | refine e_int hw ?_ | refine e_str hw ?_ | refine e_bin hw ?_ | refine e_una hw ?_ | refine e_and hw ?_ | refine e_or hw ?_ | refine e_ife hw ?_ | refine e_cmp hw ?_ | refine e_cmp2 hw ?_ | refine e_sub hw ?_ | refine e_sl hw ?_ | refine e_tup hw ?_ | refine e_lst hw ?_ | refine e_dct hw ?_ | refine e_isi hw g_is_test_isinstance g_is_test_tuple nm_tuple (by decide) (by decide +kernel) ?_) | (refine isT ?_; first | refine t_not hw ?_ | refine t_and hw ?_ | refine t_or hw ?_ | refine t_cmp hw ?_ | refine t_cmp2 hw ?_ | refine t_name hw ?_ | refine t_call hw ?_ | refine t_sub hw ?_) | (refine isS ?_; first | refine s_ret' hw ?_ | refine s_pass' hw ?_ | refine s_brk' hw ?_ | refine s_cnt' hw ?_ | refine s_exp' hw ?_ | refine s_if' hw ?_ | refine s_put' hw ?_ | refine s_for' hw ?_ (hc := cm_is_test) | refine y_is_test_0 hw ?_) | (refine isG ?_; first | refine g_sb hw ?_ (hc := cm_is_test) | refine g_tp2 hw ?_ (hc := cm_is_test) | refine z_is_test_0 hw ?_) | (refine isI ?_; first | refine i_name hw ?_ | refine i_tup' hw ?_ | refine i_lst' hw ?_) | refine e_and1 ?_ | refine e_and2 ?_ | refine e_or1 ?_ | refine e_or2 ?_ | refine o_none ?_ | refine o_some ?_ | refine p_nil ?_ | refine p_cons ?_ | refine a_nil ?_ | refine a_cons ?_ | refine t_and1 ?_ | refine t_and2 ?_ | refine t_or1 ?_ | refine t_or2 ?_ | refine k_bl ?_ | refine k_int ?_ | refine nd_tru ?_ | refine if_t ?_ | refine if_f ?_ | refine b_nil ?_ | refine b_cons ?_ | refine g_nil ?_ | refine g_cons ?_ | refine o_add ?_ | refine o_sub ?_ | refine o_neg ?_ | refine o_nt ?_ | refine c_lt ?_ | refine c_le ?_ | refine c_gt ?_ | refine c_ge ?_ | refine c_eqI ?_ | refine c_eqS ?_ | refine c_neS ?_ | refine c_neI ?_ | refine c_eqB ?_ | refine if_tc (by decide +kernel) ?_ | refine if_fc (by decide +kernel) ?_ | refine ne_c ?_ | refine isi_non_tuple ?_ | refine isi_bl_tuple ?_ | refine isi_int_tuple ?_ | refine isi_str_tuple ?_ | refine isi_tup_tuple ?_ | refine isi_rol_tuple ?_ | refine isi_ref (by assumption) (by decide) ?_ | refine c_leB1 ?_ | refine c_leB2 ?_ | refine c_in2 ?_ | refine c_in3 ?_ | refine c_in4 ?_ | refine c_in5 ?_ | refine c_ni2 ?_ | refine c_ni4 ?_ | refine c_ni5 ?_ | refine c_eqT0 ?_ | refine c_eqT1 ?_ | refine l_tup ?_ | refine l_rol ?_ | refine l_ref (by assumption) ?_ | refine x_d0 (by assumption) ?_ | refine x_d1 (by assumption) ?_ | refine x_d2 (by assumption) ?_ | refine x_d3 (by assumption) ?_ | refine x_d0 tupd_same ?_ | refine x_d1 tupd_same ?_ | refine x_d2 tupd_same ?_ | refine x_d3 tupd_same ?_ | refine d_go4 ?_ | refine r_bl ?_ | refine r_bl4 (by assumption) ?_ | refine r_bl4 tupd_same ?_ | refine m_min ?_ | refine m_max ?_ | refine m_abs ?_ | refine x_t0 ?_ | refine x_t1 ?_ | refine x_t2 ?_) | (refine len_go ?_ ?_; · (simp; done)) | (refine o_mod ?_ ?_; · (first | decide | omega)) | (refine o_pow ⟨by decide, by decide, by decide⟩ ?_) | (refine o_mul (cmul ?_ ?_ ?_ ?_) ?_; (· omega); (· omega); (· omega); (· omega)) | (refine o_div (cdiv ?_ ?_) ?_; (· omega); (· omega)) | (refine if_tc ?_ ?_; · (first | rfl | (simp; done) | (simp; omega))) | (refine if_fc ?_ ?_; · (first | rfl | (simp; done) | (simp; omega))) | refine if_c (fun _ => ?_) (fun _ => ?_) | intro _ _)
          all_goals (refine bl_of h ?_; clear h; cases q1 : inS y ["over", "under"] <;> cases q2 : inS y ["even", "odd"] <;> simp_all [isTest, wordIn] <;> omega)
      all_goals
        repeat (first | (with_reducible first | refine u_word4 (by first | assumption | exact kn_int | exact kn_str | exact kn_bl | exact kn_non | exact kn_tup | exact kn_rol) ?_ | refine uk (by first | assumption | exact kn_int | exact kn_str | exact kn_bl | exact kn_non | exact kn_tup | exact kn_rol) ?_ | (refine isE ?_; first | refine x_is_test_0 hw ?_ | refine e_bf hw g_is_test_tuple b_tuple (by decide +kernel) (by decide +kernel) ?_ | refine w_is_test_is_word_of hw ?_ | refine e_con hw g_is_test_TESTS k_is_test_TESTS ?_ | refine e_bf hw g_is_test_len b_len (by decide +kernel) (by decide +kernel) ?_ | refine w_is_test_is_number hw ?_ | refine e_none hw ?_ | refine e_bool hw ?_ | refine e_int hw ?_ | refine e_str hw ?_ | refine e_bin hw ?_ | refine e_una hw ?_ | refine e_and hw ?_ | refine e_or hw ?_ | refine e_ife hw ?_ | refine e_cmp hw ?_ | refine e_cmp2 hw ?_ | refine e_sub hw ?_ | refine e_sl hw ?_ | refine e_tup hw ?_ | refine e_lst hw ?_ | refine e_dct hw ?_ | refine e_isi hw g_is_test_isinstance g_is_test_tuple nm_tuple (by decide) (by decide +kernel) ?_) | (refine isT ?_; first | refine t_not hw ?_ | refine t_and hw ?_ | refine t_or hw ?_ | refine t_cmp hw ?_ | refine t_cmp2 hw ?_ | refine t_name hw ?_ | refine t_call hw ?_ | refine t_sub hw ?_) | (refine isS ?_; first | refine s_ret' hw ?_ | refine s_pass' hw ?_ | refine s_brk' hw ?_ | refine s_cnt' hw ?_ | refine s_exp' hw ?_ | refine s_if' hw ?_ | refine s_put' hw ?_ | refine s_for' hw ?_ (hc := cm_is_test) | refine y_is_test_0 hw ?_) | (refine isG ?_; first | refine g_sb hw ?_ (hc := cm_is_test) | refine g_tp2 hw ?_ (hc := cm_is_test) | refine z_is_test_0 hw ?_) | (refine isI ?_; first | refine i_name hw ?_ | refine i_tup' hw ?_ | refine i_lst' hw ?_) | refine e_and1 ?_ | refine e_and2 ?_ | refine e_or1 ?_ | refine e_or2 ?_ | refine o_none ?_ | refine o_some ?_ | refine p_nil ?_ | refine p_cons ?_ | refine a_nil ?_ | refine a_cons ?_ | refine t_and1 ?_ | refine t_and2 ?_ | refine t_or1 ?_ | refine t_or2 ?_ | refine k_bl ?_ | refine k_int ?_ | refine nd_tru ?_ | refine if_t ?_ | refine if_f ?_ | refine b_nil ?_ | refine b_cons ?_ | refine g_nil ?_ | refine g_cons ?_ | refine o_add ?_ | refine o_sub ?_ | refine o_neg ?_ | refine o_nt ?_ | refine c_lt ?_ | refine c_le ?_ | refine c_gt ?_ | refine c_ge ?_ | refine c_eqI ?_ | refine c_eqS ?_ | refine c_neS ?_ | refine c_neI ?_ | refine c_eqB ?_ | refine if_tc (by decide +kernel) ?_ | refine if_fc (by decide +kernel) ?_ | refine ne_c ?_ | refine isi_non_tuple ?_ | refine isi_bl_tuple ?_ | refine isi_int_tuple ?_ | refine isi_str_tuple ?_ | refine isi_tup_tuple ?_ | refine isi_rol_tuple ?_ | refine isi_ref (by assumption) (by decide) ?_ | refine c_leB1 ?_ | refine c_leB2 ?_ | refine c_in2 ?_ | refine c_in3 ?_ | refine c_in4 ?_ | refine c_in5 ?_ | refine c_ni2 ?_ | refine c_ni4 ?_ | refine c_ni5 ?_ | refine c_eqT0 ?_ | refine c_eqT1 ?_ | refine l_tup ?_ | refine l_rol ?_ | refine l_ref (by assumption) ?_ | refine x_d0 (by assumption) ?_ | refine x_d1 (by assumption) ?_ | refine x_d2 (by assumption) ?_ | refine x_d3 (by assumption) ?_ | refine x_d0 tupd_same ?_ | refine x_d1 tupd_same ?_ | refine x_d2 tupd_same ?_ | refine x_d3 tupd_same ?_ | refine d_go4 ?_ | refine r_bl ?_ | refine r_bl4 (by assumption) ?_ | refine r_bl4 tupd_same ?_ | refine m_min ?_ | refine m_max ?_ | refine m_abs ?_ | refine x_t0 ?_ | refine x_t1 ?_ | refine x_t2 ?_) | (refine len_go ?_ ?_; · (simp; done)) | (refine o_mod ?_ ?_; · (first | decide | omega)) | (refine o_pow ⟨by decide, by decide, by decide⟩ ?_) | (refine o_mul (cmul ?_ ?_ ?_ ?_) ?_; (· omega); (· omega); (· omega); (· omega)) | (refine o_div (cdiv ?_ ?_) ?_; (· omega); (· omega)) | (refine if_tc ?_ ?_; · (first | rfl | (simp; done) | (simp; omega))) | (refine if_fc ?_ ?_; · (first | rfl | (simp; done) | (simp; omega))))
      all_goals exact h
  all_goals
    repeat' (first | (with_reducible first | (refine isE ?_; first | refine x_is_test_0 hw ?_ | refine e_bf hw g_is_test_tuple b_tuple (by decide +kernel) (by decide +kernel) ?_ | refine w_is_test_is_word_of hw ?_ | refine e_con hw g_is_test_TESTS k_is_test_TESTS ?_ | refine e_bf hw g_is_test_len b_len (by decide +kernel) (by decide +kernel) ?_ | refine w_is_test_is_number hw ?_ | refine e_none hw ?_ | refine e_bool hw ?_ | refine e_int hw ?_ | refine e_str hw ?_ | refine e_bin hw ?_ | refine e_una hw ?_ | refine e_and hw ?_ | refine e_or hw ?_ | refine e_ife hw ?_ | refine e_cmp hw ?_ | refine e_cmp2 hw ?_ | refine e_sub hw ?_ | refine e_sl hw ?_ | refine e_tup hw ?_ | refine e_lst hw ?_ | refine e_dct hw ?_ | refine e_isi hw g_is_test_isinstance g_is_test_tuple nm_tuple (by decide) (by decide +kernel) ?_) | (refine isT ?_; first | refine t_not hw ?_ | refine t_and hw ?_ | refine t_or hw ?_ | refine t_cmp hw ?_ | refine t_cmp2 hw ?_ | refine t_name hw ?_ | refine t_call hw ?_ | refine t_sub hw ?_) | (refine isS ?_; first | refine s_ret' hw ?_ | refine s_pass' hw ?_ | refine s_brk' hw ?_ | refine s_cnt' hw ?_ | refine s_exp' hw ?_ | refine s_if' hw ?_ | refine s_put' hw ?_ | refine s_for' hw ?_ (hc := cm_is_test) | refine y_is_test_0 hw ?_) | (refine isG ?_; first | refine g_sb hw ?_ (hc := cm_is_test) | refine g_tp2 hw ?_ (hc := cm_is_test) | refine z_is_test_0 hw ?_) | (refine isI ?_; first | refine i_name hw ?_ | refine i_tup' hw ?_ | refine i_lst' hw ?_) | refine e_and1 ?_ | refine e_and2 ?_ | refine e_or1 ?_ | refine e_or2 ?_ | refine o_none ?_ | refine o_some ?_ | refine p_nil ?_ | refine p_cons ?_ | refine a_nil ?_ | refine a_cons ?_ | refine t_and1 ?_ | refine t_and2 ?_ | refine t_or1 ?_ | refine t_or2 ?_ | refine k_bl ?_ | refine k_int ?_ | refine nd_tru ?_ | refine if_t ?_ | refine if_f ?_ | refine b_nil ?_ | refine b_cons ?_ | refine g_nil ?_ | refine g_cons ?_ | refine o_add ?_ | refine o_sub ?_ | refine o_neg ?_ | refine o_nt ?_ | refine c_lt ?_ | refine c_le ?_ | refine c_gt ?_ | refine c_ge ?_ | refine c_eqI ?_ | refine c_eqS ?_ | refine c_neS ?_ | refine c_neI ?_ | refine c_eqB ?_ | refine if_tc (by decide +kernel) ?_ | refine if_fc (by decide +kernel) ?_ | refine ne_c ?_ | refine isi_non_tuple ?_ | refine isi_bl_tuple ?_ | refine isi_int_tuple ?_ | refine isi_str_tuple ?_ | refine isi_tup_tuple ?_ | refine isi_rol_tuple ?_ | refine isi_ref (by assumption) (by decide) ?_ | refine c_leB1 ?_ | refine c_leB2 ?_ | refine c_in2 ?_ | refine c_in3 ?_ | refine c_in4 ?_ | refine c_in5 ?_ | refine c_ni2 ?_ | refine c_ni4 ?_ | refine c_ni5 ?_ | refine c_eqT0 ?_ | refine c_eqT1 ?_ | refine l_tup ?_ | refine l_rol ?_ | refine l_ref (by assumption) ?_ | refine x_d0 (by assumption) ?_ | refine x_d1 (by assumption) ?_ | refine x_d2 (by assumption) ?_ | refine x_d3 (by assumption) ?_ | refine x_d0 tupd_same ?_ | refine x_d1 tupd_same ?_ | refine x_d2 tupd_same ?_ | refine x_d3 tupd_same ?_ | refine d_go4 ?_ | refine r_bl ?_ | refine r_bl4 (by assumption) ?_ | refine r_bl4 tupd_same ?_ | refine m_min ?_ | refine m_max ?_ | refine m_abs ?_ | refine x_t0 ?_ | refine x_t1 ?_ | refine x_t2 ?_) | (refine len_go ?_ ?_; · (simp; done)) | (refine o_mod ?_ ?_; · (first | decide | omega)) | (refine o_pow ⟨by decide, by decide, by decide⟩ ?_) | (refine o_mul (cmul ?_ ?_ ?_ ?_) ?_; (· omega); (· omega); (· omega); (· omega)) | (refine o_div (cdiv ?_ ?_) ?_; (· omega); (· omega)) | (refine if_tc ?_ ?_; · (first | rfl | (simp; done) | (simp; omega))) | (refine if_fc ?_ ?_; · (first | rfl | (simp; done) | (simp; omega))) | refine if_c (fun _ => ?_) (fun _ => ?_) | intro _ _)
  all_goals exact h
end K06


set_option Elab.async false
set_option linter.all false
set_option maxRecDepth 100000
set_option maxHeartbeats 4000000
namespace K06
open PySem PySem.Spec L2 TL
def isTaker (x : TV) : Bool := match x with
  | .tup (.str a :: r) => if a == "all" then r.isEmpty else if a == "first" then (match r with | [b] => isW b 0 2000 | _ => false) else if a == "till" then (match r with | [b] => isTest b | _ => false) else
      a == "fold" && (match r with | [b, c] => isOp b && isN c | _ => false)
  | _ => false
abbrev sp_is_taker : TSp := sp1 isTaker
def G_is_taker : GE := gOf [("is_whole", sp_is_whole), ("is_test", sp_is_test), ("is_op", sp_is_op), ("is_number", sp_is_number)] [("MOST_TAKEN", (.int (2000)))] []
theorem c_is_taker_is_whole : G_is_taker.fn "is_whole" = some (sp_is_whole) := by kernel_rfl
theorem c_is_taker_is_test : G_is_taker.fn "is_test" = some (sp_is_test) := by kernel_rfl
theorem c_is_taker_is_op : G_is_taker.fn "is_op" = some (sp_is_op) := by kernel_rfl
theorem c_is_taker_is_number : G_is_taker.fn "is_number" = some (sp_is_number) := by kernel_rfl
theorem w_is_taker_is_whole {w : Nat → WP} {n : Nat} {σ : TSt} {H : TH} {E : TX} {Q : TQ} {p pos : Pos} {es : List Expr} (hw : Steps w) (h : argsW ((w n).e S_is_taker G_is_taker) es σ H E fun xs H1 => sp_is_whole xs H1 E Q) (hi : noIsi "is_whole" es = true := by decide +kernel) (hs : noStars es = true := by decide +kernel) : (w (n + 1)).e S_is_taker G_is_taker (.Call (.Name "is_whole" p) es [] pos) σ H E Q := e_call hw g_is_taker_is_whole (by kernel_rfl) hi c_is_taker_is_whole hs h
theorem w_is_taker_is_test {w : Nat → WP} {n : Nat} {σ : TSt} {H : TH} {E : TX} {Q : TQ} {p pos : Pos} {es : List Expr} (hw : Steps w) (h : argsW ((w n).e S_is_taker G_is_taker) es σ H E fun xs H1 => sp_is_test xs H1 E Q) (hi : noIsi "is_test" es = true := by decide +kernel) (hs : noStars es = true := by decide +kernel) : (w (n + 1)).e S_is_taker G_is_taker (.Call (.Name "is_test" p) es [] pos) σ H E Q := e_call hw g_is_taker_is_test (by kernel_rfl) hi c_is_taker_is_test hs h
theorem w_is_taker_is_op {w : Nat → WP} {n : Nat} {σ : TSt} {H : TH} {E : TX} {Q : TQ} {p pos : Pos} {es : List Expr} (hw : Steps w) (h : argsW ((w n).e S_is_taker G_is_taker) es σ H E fun xs H1 => sp_is_op xs H1 E Q) (hi : noIsi "is_op" es = true := by decide +kernel) (hs : noStars es = true := by decide +kernel) : (w (n + 1)).e S_is_taker G_is_taker (.Call (.Name "is_op" p) es [] pos) σ H E Q := e_call hw g_is_taker_is_op (by kernel_rfl) hi c_is_taker_is_op hs h
theorem w_is_taker_is_number {w : Nat → WP} {n : Nat} {σ : TSt} {H : TH} {E : TX} {Q : TQ} {p pos : Pos} {es : List Expr} (hw : Steps w) (h : argsW ((w n).e S_is_taker G_is_taker) es σ H E fun xs H1 => sp_is_number xs H1 E Q) (hi : noIsi "is_number" es = true := by decide +kernel) (hs : noStars es = true := by decide +kernel) : (w (n + 1)).e S_is_taker G_is_taker (.Call (.Name "is_number" p) es [] pos) σ H E Q := e_call hw g_is_taker_is_number (by kernel_rfl) hi c_is_taker_is_number hs h
theorem k_is_taker_MOST_TAKEN : G_is_taker.con "MOST_TAKEN" = some (.int (2000)) := by kernel_rfl
theorem bd_is_taker {w : Nat → WP} (hw : Steps w) {v0 : TV} {H : TH} {E : TX} {Q : TQ} (h : sp_is_taker [v0] H E Q) : blockW ((w 40).s S_is_taker G_is_taker) (defBody st_is_taker) ⟨fun _ H => Q .non H, Q, fun _ _ => False, fun _ _ => False, fun e _ H => E e H⟩ [some v0] H := by
  obtain ⟨x, e, hk, h⟩ := h
  cases e
  refine b_cons ?_
  have hk0 := hk.kn
  cases v0
  case tup l =>
    match l, hk, h with
    | [], hk, h =>
      repeat' (first | (with_reducible first | (refine isE ?_; first | refine x_is_taker_0 hw ?_ | refine e_bf hw g_is_taker_tuple b_tuple (by decide +kernel) (by decide +kernel) ?_ | refine e_bf hw g_is_taker_str b_str (by decide +kernel) (by decide +kernel) ?_ | refine e_bf hw g_is_taker_len b_len (by decide +kernel) (by decide +kernel) ?_ | refine w_is_taker_is_whole hw ?_ | refine e_con hw g_is_taker_MOST_TAKEN k_is_taker_MOST_TAKEN ?_ | refine w_is_taker_is_test hw ?_ | refine w_is_taker_is_op hw ?_ | refine w_is_taker_is_number hw ?_ | refine e_none hw ?_ | refine e_bool hw ?_ | refine e_int hw ?_ | refine e_str hw ?_ | refine e_bin hw ?_ | refine e_una hw ?_ | refine e_and hw ?_ | refine e_or hw ?_ | refine e_ife hw ?_ | refine e_cmp hw ?_ | refine e_cmp2 hw ?_ | refine e_sub hw ?_ | refine e_sl hw ?_ | refine e_tup hw ?_ | refine e_lst hw ?_ | refine e_dct hw ?_ | refine e_isi hw g_is_taker_isinstance g_is_taker_tuple nm_tuple (by decide) (by decide +kernel) ?_ | refine e_isi hw g_is_taker_isinstance g_is_taker_str nm_str (by decide) (by decide +kernel) ?_) | (refine isT ?_; first | refine t_not hw ?_ | refine t_and hw ?_ | refine t_or hw ?_ | refine t_cmp hw ?_ | refine t_cmp2 hw ?_ | refine t_name hw ?_ | refine t_call hw ?_ | refine t_sub hw ?_) | (refine isS ?_; first | refine s_ret' hw ?_ | refine s_pass' hw ?_ | refine s_brk' hw ?_ | refine s_cnt' hw ?_ | refine s_exp' hw ?_ | refine s_if' hw ?_ | refine s_put' hw ?_ | refine s_for' hw ?_ (hc := cm_is_taker) | refine y_is_taker_0 hw ?_) | (refine isG ?_; first | refine g_sb hw ?_ (hc := cm_is_taker) | refine g_tp2 hw ?_ (hc := cm_is_taker) | refine z_is_taker_0 hw ?_) | (refine isI ?_; first | refine i_name hw ?_ | refine i_tup' hw ?_ | refine i_lst' hw ?_) | refine e_and1 ?_ | refine e_and2 ?_ | refine e_or1 ?_ | refine e_or2 ?_ | refine o_none ?_ | refine o_some ?_ | refine p_nil ?_ | refine p_cons ?_ | refine a_nil ?_ | refine a_cons ?_ | refine t_and1 ?_ | refine t_and2 ?_ | refine t_or1 ?_ | refine t_or2 ?_ | refine k_bl ?_ | refine k_int ?_ | refine nd_tru ?_ | refine if_t ?_ | refine if_f ?_ | refine b_nil ?_ | refine b_cons ?_ | refine g_nil ?_ | refine g_cons ?_ | refine o_add ?_ | refine o_sub ?_ | refine o_neg ?_ | refine o_nt ?_ | refine c_lt ?_ | refine c_le ?_ | refine c_gt ?_ | refine c_ge ?_ | refine c_eqI ?_ | refine c_eqS ?_ | refine c_neS ?_ | refine c_neI ?_ | refine c_eqB ?_ | refine if_tc (by decide +kernel) ?_ | refine if_fc (by decide +kernel) ?_ | refine ne_c ?_ | refine isi_non_str ?_ | refine isi_non_tuple ?_ | refine isi_bl_str ?_ | refine isi_bl_tuple ?_ | refine isi_int_str ?_ | refine isi_int_tuple ?_ | refine isi_str_str ?_ | refine isi_str_tuple ?_ | refine isi_tup_str ?_ | refine isi_tup_tuple ?_ | refine isi_rol_str ?_ | refine isi_rol_tuple ?_ | refine isi_ref (by assumption) (by decide) ?_ | refine c_leB1 ?_ | refine c_leB2 ?_ | refine c_in2 ?_ | refine c_in3 ?_ | refine c_in4 ?_ | refine c_in5 ?_ | refine c_ni2 ?_ | refine c_ni4 ?_ | refine c_ni5 ?_ | refine c_eqT0 ?_ | refine c_eqT1 ?_ | refine l_tup ?_ | refine l_rol ?_ | refine l_ref (by assumption) ?_ | refine x_d0 (by assumption) ?_ | refine x_d1 (by assumption) ?_ | refine x_d2 (by assumption) ?_ | refine x_d3 (by assumption) ?_ | refine x_d0 tupd_same ?_ | refine x_d1 tupd_same ?_ | refine x_d2 tupd_same ?_ | refine x_d3 tupd_same ?_ | refine d_go4 ?_ | refine r_bl ?_ | refine r_bl4 (by assumption) ?_ | refine r_bl4 tupd_same ?_ | refine m_min ?_ | refine m_max ?_ | refine m_abs ?_ | refine x_t0 ?_ | refine x_t1 ?_ | refine x_t2 ?_) | (refine len_go ?_ ?_; · (simp; done)) | (refine o_mod ?_ ?_; · (first | decide | omega)) | (refine o_pow ⟨by decide, by decide, by decide⟩ ?_) | (refine o_mul (cmul ?_ ?_ ?_ ?_) ?_; (· omega); (· omega); (· omega); (· omega)) | (refine o_div (cdiv ?_ ?_) ?_; (· omega); (· omega)) | (refine if_tc ?_ ?_; · (first | rfl | (simp; done) | (simp; omega))) | (refine if_fc ?_ ?_; · (first | rfl | (simp; done) | (simp; omega))) | refine if_c (fun _ => ?_) (fun _ => ?_) | intro _ _)
      all_goals exact h
    | a :: r, hk, h =>
      have ka : Kn H a := (hk.at (by simp)).kn
      cases a
      case str y =>
        match r, hk, h with
        | [], hk, h =>
          repeat' (first | (with_reducible first | refine uk (by first | assumption | exact kn_int | exact kn_str | exact kn_bl | exact kn_non | exact kn_tup | exact kn_rol) ?_ | refine u_whole (by first | assumption | exact kn_int | exact kn_str | exact kn_bl | exact kn_non | exact kn_tup | exact kn_rol) ?_ | refine u1 (by assumption) ?_ | (refine isE ?_; first | refine x_is_taker_0 hw ?_ | refine e_bf hw g_is_taker_tuple b_tuple (by decide +kernel) (by decide +kernel) ?_ | refine e_bf hw g_is_taker_str b_str (by decide +kernel) (by decide +kernel) ?_ | refine e_bf hw g_is_taker_len b_len (by decide +kernel) (by decide +kernel) ?_ | refine w_is_taker_is_whole hw ?_ | refine e_con hw g_is_taker_MOST_TAKEN k_is_taker_MOST_TAKEN ?_ | refine w_is_taker_is_test hw ?_ | refine w_is_taker_is_op hw ?_ | refine w_is_taker_is_number hw ?_ | refine e_none hw ?_ | refine e_bool hw ?_ | refine e_int hw ?_ | refine e_str hw ?_ | refine e_bin hw ?_ | refine e_una hw ?_ | refine e_and hw ?_ | refine e_or hw ?_ | refine e_ife hw ?_ | refine e_cmp hw ?_ | refine e_cmp2 hw ?_ | refine e_sub hw ?_ | refine e_sl hw ?_ | refine e_tup hw ?_ | refine e_lst hw ?_ | refine e_dct hw ?_ | refine e_isi hw g_is_taker_isinstance g_is_taker_tuple nm_tuple (by decide) (by decide +kernel) ?_ | refine e_isi hw g_is_taker_isinstance g_is_taker_str nm_str (by decide) (by decide +kernel) ?_) | (refine isT ?_; first | refine t_not hw ?_ | refine t_and hw ?_ | refine t_or hw ?_ | refine t_cmp hw ?_ | refine t_cmp2 hw ?_ | refine t_name hw ?_ | refine t_call hw ?_ | refine t_sub hw ?_) | (refine isS ?_; first | refine s_ret' hw ?_ | refine s_pass' hw ?_ | refine s_brk' hw ?_ | refine s_cnt' hw ?_ | refine s_exp' hw ?_ | refine s_if' hw ?_ | refine s_put' hw ?_ | refine s_for' hw ?_ (hc := cm_is_taker) | refine y_is_taker_0 hw ?_) | (refine isG ?_; first | refine g_sb hw ?_ (hc := cm_is_taker) | refine g_tp2 hw ?_ (hc := cm_is_taker) | refine z_is_taker_0 hw ?_) | (refine isI ?_; first | refine i_name hw ?_ | refine i_tup' hw ?_ | refine i_lst' hw ?_) | refine e_and1 ?_ | refine e_and2 ?_ | refine e_or1 ?_ | refine e_or2 ?_ | refine o_none ?_ | refine o_some ?_ | refine p_nil ?_ | refine p_cons ?_ | refine a_nil ?_ | refine a_cons ?_ | refine t_and1 ?_ | refine t_and2 ?_ | refine t_or1 ?_ | refine t_or2 ?_ | refine k_bl ?_ | refine k_int ?_ | refine nd_tru ?_ | refine if_t ?_ | refine if_f ?_ | refine b_nil ?_ | refine b_cons ?_ | refine g_nil ?_ | refine g_cons ?_ | refine o_add ?_ | refine o_sub ?_ | refine o_neg ?_ | refine o_nt ?_ | refine c_lt ?_ | refine c_le ?_ | refine c_gt ?_ | refine c_ge ?_ | refine c_eqI ?_ | refine c_eqS ?_ | refine c_neS ?_ | refine c_neI ?_ | refine c_eqB ?_ | refine if_tc (by decide +kernel) ?_ | refine if_fc (by decide +kernel) ?_ | refine ne_c ?_ | refine isi_non_str ?_ | refine isi_non_tuple ?_ | refine isi_bl_str ?_ | refine isi_bl_tuple ?_ | refine isi_int_str ?_ | refine isi_int_tuple ?_ | refine isi_str_str ?_ | refine isi_str_tuple ?_ | refine isi_tup_str ?_ | refine isi_tup_tuple ?_ | refine isi_rol_str ?_ | refine isi_rol_tuple ?_ | refine isi_ref (by assumption) (by decide) ?_ | refine c_leB1 ?_ | refine c_leB2 ?_ | refine c_in2 ?_ | refine c_in3 ?_ | refine c_in4 ?_ | refine c_in5 ?_ | refine c_ni2 ?_ | refine c_ni4 ?_ | refine c_ni5 ?_ | refine c_eqT0 ?_ | refine c_eqT1 ?_ | refine l_tup ?_ | refine l_rol ?_ | refine l_ref (by assumption) ?_ | refine x_d0 (by assumption) ?_ | refine x_d1 (by assumption) ?_ | refine x_d2 (by assumption) ?_ | refine x_d3 (by assumption) ?_ | refine x_d0 tupd_same ?_ | refine x_d1 tupd_same ?_ | refine x_d2 tupd_same ?_ | refine x_d3 tupd_same ?_ | refine d_go4 ?_ | refine r_bl ?_ | refine r_bl4 (by assumption) ?_ | refine r_bl4 tupd_same ?_ | refine m_min ?_ | refine m_max ?_ | refine m_abs ?_ | refine x_t0 ?_ | refine x_t1 ?_ | refine x_t2 ?_) | (refine len_go ?_ ?_; · (simp; done)) | (refine o_mod ?_ ?_; · (first | decide | omega)) | (refine o_pow ⟨by decide, by decide, by decide⟩ ?_) | (refine o_mul (cmul ?_ ?_ ?_ ?_) ?_; (· omega); (· omega); (· omega); (· omega)) | (refine o_div (cdiv ?_ ?_) ?_; (· omega); (· omega)) | (refine if_tc ?_ ?_; · (first | rfl | (simp; done) | (simp; omega))) | (refine if_fc ?_ ?_; · (first | rfl | (simp; done) | (simp; omega))) | refine if_c (fun _ => ?_) (fun _ => ?_) | intro _ _)
          all_goals (refine bl_of h ?_; clear h; simp_all [isTaker, sbeq])
        | [b], hk, h =>
          have tb : Tg H b := hk.at (by simp)
          have kb : Kn H b := tb.kn
          repeat' (first | (with_reducible first | refine uk (by first | assumption | exact kn_int | exact kn_str | exact kn_bl | exact kn_non | exact kn_tup | exact kn_rol) ?_ | refine u_whole (by first | assumption | exact kn_int | exact kn_str | exact kn_bl | exact kn_non | exact kn_tup | exact kn_rol) ?_ | refine u1 (by assumption) ?_ | (refine isE ?_; first | refine x_is_taker_0 hw ?_ | refine e_bf hw g_is_taker_tuple b_tuple (by decide +kernel) (by decide +kernel) ?_ | refine e_bf hw g_is_taker_str b_str (by decide +kernel) (by decide +kernel) ?_ | refine e_bf hw g_is_taker_len b_len (by decide +kernel) (by decide +kernel) ?_ | refine w_is_taker_is_whole hw ?_ | refine e_con hw g_is_taker_MOST_TAKEN k_is_taker_MOST_TAKEN ?_ | refine w_is_taker_is_test hw ?_ | refine w_is_taker_is_op hw ?_ | refine w_is_taker_is_number hw ?_ | refine e_none hw ?_ | refine e_bool hw ?_ | refine e_int hw ?_ | refine e_str hw ?_ | refine e_bin hw ?_ | refine e_una hw ?_ | refine e_and hw ?_ | refine e_or hw ?_ | refine e_ife hw ?_ | refine e_cmp hw ?_ | refine e_cmp2 hw ?_ | refine e_sub hw ?_ | refine e_sl hw ?_ | refine e_tup hw ?_ | refine e_lst hw ?_ | refine e_dct hw ?_ | refine e_isi hw g_is_taker_isinstance g_is_taker_tuple nm_tuple (by decide) (by decide +kernel) ?_ | refine e_isi hw g_is_taker_isinstance g_is_taker_str nm_str (by decide) (by decide +kernel) ?_) | (refine isT ?_; first | refine t_not hw ?_ | refine t_and hw ?_ | refine t_or hw ?_ | refine t_cmp hw ?_ | refine t_cmp2 hw ?_ | refine t_name hw ?_ | refine t_call hw ?_ | refine t_sub hw ?_) | (refine isS ?_; first | refine s_ret' hw ?_ | refine s_pass' hw ?_ | refine s_brk' hw ?_ | refine s_cnt' hw ?_ | refine s_exp' hw ?_ | refine s_if' hw ?_ | refine s_put' hw ?_ | refine s_for' hw ?_ (hc := cm_is_taker) | refine y_is_taker_0 hw ?_) | (refine isG ?_; first | refine g_sb hw ?_ (hc := cm_is_taker) | refine g_tp2 hw ?_ (hc := cm_is_taker) | refine z_is_taker_0 hw ?_) | (refine isI ?_; first | refine i_name hw ?_ | refine i_tup' hw ?_ | refine i_lst' hw ?_) | refine e_and1 ?_ | refine e_and2 ?_ | refine e_or1 ?_ | refine e_or2 ?_ | refine o_none ?_ | refine o_some ?_ | refine p_nil ?_ | refine p_cons ?_ | refine a_nil ?_ | refine a_cons ?_ | refine t_and1 ?_ | refine t_and2 ?_ | refine t_or1 ?_ | refine t_or2 ?_ | refine k_bl ?_ | refine k_int ?_ | refine nd_tru ?_ | refine if_t ?_ | refine if_f ?_ | refine b_nil ?_ | refine b_cons ?_ | refine g_nil ?_ | refine g_cons ?_ | refine o_add ?_ | refine o_sub ?_ | refine o_neg ?_ | refine o_nt ?_ | refine c_lt ?_ | refine c_le ?_ | refine c_gt ?_ | refine c_ge ?_ | refine c_eqI ?_ | refine c_eqS ?_ | refine c_neS ?_ | refine c_neI ?_ | refine c_eqB ?_ | refine if_tc (by decide +kernel) ?_ | refine if_fc (by decide +kernel) ?_ | refine ne_c ?_ | refine isi_non_str ?_ | refine isi_non_tuple ?_ | refine isi_bl_str ?_ | refine isi_bl_tuple ?_ | refine isi_int_str ?_ | refine isi_int_tuple ?_ | refine isi_str_str ?_ | refine isi_str_tuple ?_ | refine isi_tup_str ?_ | refine isi_tup_tuple ?_ | refine isi_rol_str ?_ | refine isi_rol_tuple ?_ | refine isi_ref (by assumption) (by decide) ?_ | refine c_leB1 ?_ | refine c_leB2 ?_ | refine c_in2 ?_ | refine c_in3 ?_ | refine c_in4 ?_ | refine c_in5 ?_ | refine c_ni2 ?_ | refine c_ni4 ?_ | refine c_ni5 ?_ | refine c_eqT0 ?_ | refine c_eqT1 ?_ | refine l_tup ?_ | refine l_rol ?_ | refine l_ref (by assumption) ?_ | refine x_d0 (by assumption) ?_ | refine x_d1 (by assumption) ?_ | refine x_d2 (by assumption) ?_ | refine x_d3 (by assumption) ?_ | refine x_d0 tupd_same ?_ | refine x_d1 tupd_same ?_ | refine x_d2 tupd_same ?_ | refine x_d3 tupd_same ?_ | refine d_go4 ?_ | refine r_bl ?_ | refine r_bl4 (by assumption) ?_ | refine r_bl4 tupd_same ?_ | refine m_min ?_ | refine m_max ?_ | refine m_abs ?_ | refine x_t0 ?_ | refine x_t1 ?_ | refine x_t2 ?_) | (refine len_go ?_ ?_; · (simp; done)) | (refine o_mod ?_ ?_; · (first | decide | omega)) | (refine o_pow ⟨by decide, by decide, by decide⟩ ?_) | (refine o_mul (cmul ?_ ?_ ?_ ?_) ?_; (· omega); (· omega); (· omega); (· omega)) | (refine o_div (cdiv ?_ ?_) ?_; (· omega); (· omega)) | (refine if_tc ?_ ?_; · (first | rfl | (simp; done) | (simp; omega))) | (refine if_fc ?_ ?_; · (first | rfl | (simp; done) | (simp; omega))) | refine if_c (fun _ => ?_) (fun _ => ?_) | intro _ _)
          all_goals (refine bl_of h ?_; clear h; simp_all [isTaker, sbeq])
        | [b, c], hk, h =>
          have tb : Tg H b := hk.at (by simp)
          have kb : Kn H b := tb.kn
          have tc : Tg H c := hk.at (by simp)
          have kc : Kn H c := tc.kn
          repeat' (first | (with_reducible first | refine uk (by first | assumption | exact kn_int | exact kn_str | exact kn_bl | exact kn_non | exact kn_tup | exact kn_rol) ?_ | refine u_whole (by first | assumption | exact kn_int | exact kn_str | exact kn_bl | exact kn_non | exact kn_tup | exact kn_rol) ?_ | refine u1 (by assumption) ?_ | (refine isE ?_; first | refine x_is_taker_0 hw ?_ | refine e_bf hw g_is_taker_tuple b_tuple (by decide +kernel) (by decide +kernel) ?_ | refine e_bf hw g_is_taker_str b_str (by decide +kernel) (by decide +kernel) ?_ | refine e_bf hw g_is_taker_len b_len (by decide +kernel) (by decide +kernel) ?_ | refine w_is_taker_is_whole hw ?_ | refine e_con hw g_is_taker_MOST_TAKEN k_is_taker_MOST_TAKEN ?_ | refine w_is_taker_is_test hw ?_ | refine w_is_taker_is_op hw ?_ | refine w_is_taker_is_number hw ?_ | refine e_none hw ?_ | refine e_bool hw ?_ | refine e_int hw ?_ | refine e_str hw ?_ | refine e_bin hw ?_ | refine e_una hw ?_ | refine e_and hw ?_ | refine e_or hw ?_ | refine e_ife hw ?_ | refine e_cmp hw ?_ | refine e_cmp2 hw ?_ | refine e_sub hw ?_ | refine e_sl hw ?_ | refine e_tup hw ?_ | refine e_lst hw ?_ | refine e_dct hw ?_ | refine e_isi hw g_is_taker_isinstance g_is_taker_tuple nm_tuple (by decide) (by decide +kernel) ?_ | refine e_isi hw g_is_taker_isinstance g_is_taker_str nm_str (by decide) (by decide +kernel) ?_) | (refine isT ?_; first | refine t_not hw ?_ | refine t_and hw ?_ | refine t_or hw ?_ | refine t_cmp hw ?_ | refine t_cmp2 hw ?_ | refine t_name hw ?_ | refine t_call hw ?_ | refine t_sub hw ?_) | (refine isS ?_; first | refine s_ret' hw ?_ | refine s_pass' hw ?_ | refine s_brk' hw ?_ | refine s_cnt' hw ?_ | refine s_exp' hw ?_ | refine s_if' hw ?_ | refine s_put' hw ?_ | refine s_for' hw ?_ (hc := cm_is_taker) | refine y_is_taker_0 hw ?_) | (refine isG ?_; first | refine g_sb hw ?_ (hc := cm_is_taker) | refine g_tp2 hw ?_ (hc := cm_is_taker) | refine z_is_taker_0 hw ?_) | (refine isI ?_; first | refine i_name hw ?_ | refine i_tup' hw ?_ | refine i_lst' hw ?_) | refine e_and1 ?_ | refine e_and2 ?_ | refine e_or1 ?_ | refine e_or2 ?_ | refine o_none ?_ | refine o_some ?_ | refine p_nil ?_ | refine p_cons ?_ | refine a_nil ?_ | refine a_cons ?_ | refine t_and1 ?_ | refine t_and2 ?_ | refine t_or1 ?_ | refine t_or2 ?_ | refine k_bl ?_ | refine k_int ?_ | refine nd_tru ?_ | refine if_t ?_ | refine if_f ?_ | refine b_nil ?_ | refine b_cons ?_ | refine g_nil ?_ | refine g_cons ?_ | refine o_add ?_ | refine o_sub ?_ | refine o_neg ?_ | refine o_nt ?_ | refine c_lt ?_ | refine c_le ?_ | refine c_gt ?_ | refine c_ge ?_ | refine c_eqI ?_ | refine c_eqS ?_ | refine c_neS ?_ | refine c_neI ?_ | refine c_eqB ?_ | refine if_tc (by decide +kernel) ?_ | refine if_fc (by decide +kernel) ?_ | refine ne_c ?_ | refine isi_non_str ?_ | refine isi_non_tuple ?_ | refine isi_bl_str ?_ | refine isi_bl_tuple ?_ | refine isi_int_str ?_ | refine isi_int_tuple ?_ | refine isi_str_str ?_ | refine isi_str_tuple ?_ | refine isi_tup_str ?_ | refine isi_tup_tuple ?_ | refine isi_rol_str ?_ | refine isi_rol_tuple ?_ | refine isi_ref (by assumption) (by decide) ?_ | refine c_leB1 ?_ | refine c_leB2 ?_ | refine c_in2 ?_ | refine c_in3 ?_ | refine c_in4 ?_ | refine c_in5 ?_ | refine c_ni2 ?_ | refine c_ni4 ?_ | refine c_ni5 ?_ | refine c_eqT0 ?_ | refine c_eqT1 ?_ | refine l_tup ?_ | refine l_rol ?_ | refine l_ref (by assumption) ?_ | refine x_d0 (by assumption) ?_ | refine x_d1 (by assumption) ?_ | refine x_d2 (by assumption) ?_ | refine x_d3 (by assumption) ?_ | refine x_d0 tupd_same ?_ | refine x_d1 tupd_same ?_ | refine x_d2 tupd_same ?_ | refine x_d3 tupd_same ?_ | refine d_go4 ?_ | refine r_bl ?_ | refine r_bl4 (by assumption) ?_ | refine r_bl4 tupd_same ?_ | refine m_min ?_ | refine m_max ?_ | refine m_abs ?_ | refine x_t0 ?_ | refine x_t1 ?_ | refine x_t2 ?_) | (refine len_go ?_ ?_; · (simp; done)) | (refine o_mod ?_ ?_; · (first | decide | omega)) | (refine o_pow ⟨by decide, by decide, by decide⟩ ?_) | (refine o_mul (cmul ?_ ?_ ?_ ?_) ?_; (· omega); (· omega); (· omega); (· omega)) | (refine o_div (cdiv ?_ ?_) ?_; (· omega); (· omega)) | (refine if_tc ?_ ?_; · (first | rfl | (simp; done) | (simp; omega))) | (refine if_fc ?_ ?_; · (first | rfl | (simp; done) | (simp; omega))) | refine if_c (fun _ => ?_) (fun _ => ?_) | intro _ _)
          all_goals (refine bl_of h ?_; clear h; simp_all [isTaker, sbeq])
        | b :: c :: d :: r, hk, h =>
          repeat' (first | (with_reducible first | refine uk (by first | assumption | exact kn_int | exact kn_str | exact kn_bl | exact kn_non | exact kn_tup | exact kn_rol) ?_ | refine u_whole (by first | assumption | exact kn_int | exact kn_str | exact kn_bl | exact kn_non | exact kn_tup | exact kn_rol) ?_ | refine u1 (by assumption) ?_ | (refine isE ?_; first | refine x_is_taker_0 hw ?_ | refine e_bf hw g_is_taker_tuple b_tuple (by decide +kernel) (by decide +kernel) ?_ | refine e_bf hw g_is_taker_str b_str (by decide +kernel) (by decide +kernel) ?_ | refine e_bf hw g_is_taker_len b_len (by decide +kernel) (by decide +kernel) ?_ | refine w_is_taker_is_whole hw ?_ | refine e_con hw g_is_taker_MOST_TAKEN k_is_taker_MOST_TAKEN ?_ | refine w_is_taker_is_test hw ?_ | refine w_is_taker_is_op hw ?_ | refine w_is_taker_is_number hw ?_ | refine e_none hw ?_ | refine e_bool hw ?_ | refine e_int hw ?_ | refine e_str hw ?_ | refine e_bin hw ?_ | refine e_una hw ?_ | refine e_and hw ?_ | refine e_or hw ?_ | refine e_ife hw ?_ | refine e_cmp hw ?_ | refine e_cmp2 hw ?_ | refine e_sub hw ?_ | refine e_sl hw ?_ | refine e_tup hw ?_ | refine e_lst hw ?_ | refine e_dct hw ?_ | refine e_isi hw g_is_taker_isinstance g_is_taker_tuple nm_tuple (by decide) (by decide +kernel) ?_ | refine e_isi hw g_is_taker_isinstance g_is_taker_str nm_str (by decide) (by decide +kernel) ?_) | (refine isT ?_; first | refine t_not hw ?_ | refine t_and hw ?_ | refine t_or hw ?_ | refine t_cmp hw ?_ | refine t_cmp2 hw ?_ | refine t_name hw ?_ | refine t_call hw ?_ | refine t_sub hw ?_) | (refine isS ?_; first | refine s_ret' hw ?_ | refine s_pass' hw ?_ | refine s_brk' hw ?_ | refine s_cnt' hw ?_ | refine s_exp' hw ?_ | refine s_if' hw ?_ | refine s_put' hw ?_ | refine s_for' hw ?_ (hc := cm_is_taker) | refine y_is_taker_0 hw ?_) | (refine isG ?_; first | refine g_sb hw ?_ (hc := cm_is_taker) | refine g_tp2 hw ?_ (hc := cm_is_taker) | refine z_is_taker_0 hw ?_) | (refine isI ?_; first | refine i_name hw ?_ | refine i_tup' hw ?_ | refine i_lst' hw ?_) | refine e_and1 ?_ | refine e_and2 ?_ | refine e_or1 ?_ | refine e_or2 ?_ | refine o_none ?_ | refine o_some ?_ | refine p_nil ?_ | refine p_cons ?_ | refine a_nil ?_ | refine a_cons ?_ | refine t_and1 ?_ | refine t_and2 ?_ | refine t_or1 ?_ | refine t_or2 ?_ | refine k_bl ?_ | refine k_int ?_ | refine nd_tru ?_ | refine if_t ?_ | refine if_f ?_ | refine b_nil ?_ | refine b_cons ?_ | refine g_nil ?_ | refine g_cons ?_ | refine o_add ?_ | refine o_sub ?_ | refine o_neg ?_ | refine o_nt ?_ | refine c_lt ?_ | refine c_le ?_ | refine c_gt ?_ | refine c_ge ?_ | refine c_eqI ?_ | refine c_eqS ?_ | refine c_neS ?_ | refine c_neI ?_ | refine c_eqB ?_ | refine if_tc (by decide +kernel) ?_ | refine if_fc (by decide +kernel) ?_ | refine ne_c ?_ | refine isi_non_str ?_ | refine isi_non_tuple ?_ | refine isi_bl_str ?_ | refine isi_bl_tuple ?_ | refine isi_int_str ?_ | refine isi_int_tuple ?_ | refine isi_str_str ?_ | refine isi_str_tuple ?_ | refine isi_tup_str ?_ | refine isi_tup_tuple ?_ | refine isi_rol_str ?_ | refine isi_rol_tuple ?_ | refine isi_ref (by assumption) (by decide) ?_ | refine c_leB1 ?_ | refine c_leB2 ?_ | refine c_in2 ?_ | refine c_in3 ?_ | refine c_in4 ?_ | refine c_in5 ?_ | refine c_ni2 ?_ | refine c_ni4 ?_ | refine c_ni5 ?_ | refine c_eqT0 ?_ | refine c_eqT1 ?_ | refine l_tup ?_ | refine l_rol ?_ | refine l_ref (by assumption) ?_ | refine x_d0 (by assumption) ?_ | refine x_d1 (by assumption) ?_ | refine x_d2 (by assumption) ?_ | refine x_d3 (by assumption) ?_ | refine x_d0 tupd_same ?_ | refine x_d1 tupd_same ?_ | refine x_d2 tupd_same ?_ | refine x_d3 tupd_same ?_ | refine d_go4 ?_ | refine r_bl ?_ | refine r_bl4 (by assumption) ?_ | refine r_bl4 tupd_same ?_ | refine m_min ?_ | refine m_max ?_ | refine m_abs ?_ | refine x_t0 ?_ | refine x_t1 ?_ | refine x_t2 ?_) | (refine len_go ?_ ?_; · (simp; done)) | (refine o_mod ?_ ?_; · (first | decide | omega)) | (refine o_pow ⟨by decide, by decide, by decide⟩ ?_) | (refine o_mul (cmul ?_ ?_ ?_ ?_) ?_; (· omega); (· omega); (· omega); (· omega)) | (refine o_div (cdiv ?_ ?_) ?_; (· omega); (· omega)) | (refine if_tc ?_ ?_; · (first | rfl | (simp; done) | (simp; omega))) | (refine if_fc ?_ ?_; · (first | rfl | (simp; done) | (simp; omega))) | refine if_c (fun _ => ?_) (fun _ => ?_) | intro _ _)
          all_goals (refine bl_of h ?_; clear h; simp_all [isTaker, sbeq] <;> omega)
      all_goals
        repeat (first | (with_reducible first | (refine isE ?_; first | refine x_is_taker_0 hw ?_ | refine e_bf hw g_is_taker_tuple b_tuple (by decide +kernel) (by decide +kernel) ?_ | refine e_bf hw g_is_taker_str b_str (by decide +kernel) (by decide +kernel) ?_ | refine e_bf hw g_is_taker_len b_len (by decide +kernel) (by decide +kernel) ?_ | refine w_is_taker_is_whole hw ?_ | refine e_con hw g_is_taker_MOST_TAKEN k_is_taker_MOST_TAKEN ?_ | refine w_is_taker_is_test hw ?_ | refine w_is_taker_is_op hw ?_ | refine w_is_taker_is_number hw ?_ | refine e_none hw ?_ | refine e_bool hw ?_ | refine e_int hw ?_ | refine e_str hw ?_ | refine e_bin hw ?_ | refine e_una hw ?_ | refine e_and hw ?_ | refine e_or hw ?_ | refine e_ife hw ?_ | refine e_cmp hw ?_ | refine e_cmp2 hw ?_ | refine e_sub hw ?_ | refine e_sl hw ?_ | refine e_tup hw ?_ | refine e_lst hw ?_ | refine e_dct hw ?_ | refine e_isi hw g_is_taker_isinstance g_is_taker_tuple nm_tuple (by decide) (by decide +kernel) ?_ | refine e_isi hw g_is_taker_isinstance g_is_taker_str nm_str (by decide) (by decide +kernel) ?_) | (refine isT ?_; first | refine t_not hw ?_ | refine t_and hw ?_ | refine t_or hw ?_ | refine t_cmp hw ?_ | refine t_cmp2 hw ?_ | refine t_name hw ?_ | refine t_call hw ?_ | refine t_sub hw ?_) | (refine isS ?_; first | refine s_ret' hw ?_ | refine s_pass' hw ?_ | refine s_brk' hw ?_ | refine s_cnt' hw ?_ | refine s_exp' hw ?_ | refine s_if' hw ?_ | refine s_put' hw ?_ | refine s_for' hw ?_ (hc := cm_is_taker) | refine y_is_taker_0 hw ?_) | (refine isG ?_; first | refine g_sb hw ?_ (hc := cm_is_taker) | refine g_tp2 hw ?_ (hc := cm_is_taker) | refine z_is_taker_0 hw ?_) | (refine isI ?_; first | refine i_name hw ?_ | refine i_tup' hw ?_ | refine i_lst' hw ?_) | refine e_and1 ?_ | refine e_and2 ?_ | refine e_or1 ?_ | refine e_or2 ?_ | refine o_none ?_ | refine o_some ?_ | refine p_nil ?_ | refine p_cons ?_ | refine a_nil ?_ | refine a_cons ?_ | refine t_and1 ?_ | refine t_and2 ?_ | refine t_or1 ?_ | refine t_or2 ?_ | refine k_bl ?_ | refine k_int ?_ | refine nd_tru ?_ | refine if_t ?_ | refine if_f ?_ | refine b_nil ?_ | refine b_cons ?_ | refine g_nil ?_ | refine g_cons ?_ | refine o_add ?_ | refine o_sub ?_ | refine o_neg ?_ | refine o_nt ?_ | refine c_lt ?_ | refine c_le ?_ | refine c_gt ?_ | refine c_ge ?_ | refine c_eqI ?_ | refine c_eqS ?_ | refine c_neS ?_ | refine c_neI ?_ | refine c_eqB ?_ | refine if_tc (by decide +kernel) ?_ | refine if_fc (by decide +kernel) ?_ | refine ne_c ?_ | refine isi_non_str ?_ | refine isi_non_tuple ?_ | refine isi_bl_str ?_ | refine isi_bl_tuple ?_ | refine isi_int_str ?_ | refine isi_int_tuple ?_ | refine isi_str_str ?_ | refine isi_str_tuple ?_ | refine isi_tup_str ?_ | refine isi_tup_tuple ?_ | refine isi_rol_str ?_ | refine isi_rol_tuple ?_ | refine isi_ref (by assumption) (by decide) ?_ | refine c_leB1 ?_ | refine c_leB2 ?_ | refine c_in2 ?_ | refine c_in3 ?_ | refine c_in4 ?_ | refine c_in5 ?_ | refine c_ni2 ?_ | refine c_ni4 ?_ | refine c_ni5 ?_ | refine c_eqT0 ?_ | refine c_eqT1 ?_ | refine l_tup ?_ | refine l_rol ?_ | refine l_ref (by assumption) ?_ | refine x_d0 (by assumption) ?_ | refine x_d1 (by assumption) ?_ | refine x_d2 (by assumption) ?_ | refine x_d3 (by assumption) ?_ | refine x_d0 tupd_same ?_ | refine x_d1 tupd_same ?_ | refine x_d2 tupd_same ?_ | refine x_d3 tupd_same ?_ | refine d_go4 ?_ | refine r_bl ?_ | refine r_bl4 (by assumption) ?_ | refine r_bl4 tupd_same ?_ | refine m_min ?_ | refine m_max ?_ | refine m_abs ?_ | refine x_t0 ?_ | refine x_t1 ?_ | refine x_t2 ?_) | (refine len_go ?_ ?_; · (simp; done)) | (refine o_mod ?_ ?_; · (first | decide | omega)) | (refine o_pow ⟨by decide, by decide, by decide⟩ ?_) | (refine o_mul (cmul ?_ ?_ ?_ ?_) ?_; (· omega); (· omega); (· omega); (· omega)) | (refine o_div (cdiv ?_ ?_) ?_; (· omega); (· omega)) | (refine if_tc ?_ ?_; · (first | rfl | (simp; done) | (simp; omega))) | (refine if_fc ?_ ?_; · (first | rfl | (simp; done) | (simp; omega))))
      all_goals exact h
  all_goals
    repeat' (first | (with_reducible first | (refine isE ?_; first | refine x_is_taker_0 hw ?_ | refine e_bf hw g_is_taker_tuple b_tuple (by decide +kernel) (by decide +kernel) ?_ | refine e_bf hw g_is_taker_str b_str (by decide +kernel) (by decide +kernel) ?_ | refine e_bf hw g_is_taker_len b_len (by decide +kernel) (by decide +kernel) ?_ | refine w_is_taker_is_whole hw ?_ | refine e_con hw g_is_taker_MOST_TAKEN k_is_taker_MOST_TAKEN ?_ | refine w_is_taker_is_test hw ?_ | refine w_is_taker_is_op hw ?_ | refine w_is_taker_is_number hw ?_ | refine e_none hw ?_ | refine e_bool hw ?_ | refine e_int hw ?_ | refine e_str hw ?_ | refine e_bin hw ?_ | refine e_una hw ?_ | refine e_and hw ?_ | refine e_or hw ?_ | refine e_ife hw ?_ | refine e_cmp hw ?_ | refine e_cmp2 hw ?_ | refine e_sub hw ?_ | refine e_sl hw ?_ | refine e_tup hw ?_ | refine e_lst hw ?_ | refine e_dct hw ?_ | refine e_isi hw g_is_taker_isinstance g_is_taker_tuple nm_tuple (by decide) (by decide +kernel) ?_ | refine e_isi hw g_is_taker_isinstance g_is_taker_str nm_str (by decide) (by decide +kernel) ?_) | (refine isT ?_; first | refine t_not hw ?_ | refine t_and hw ?_ | refine t_or hw ?_ | refine t_cmp hw ?_ | refine t_cmp2 hw ?_ | refine t_name hw ?_ | refine t_call hw ?_ | refine t_sub hw ?_) | (refine isS ?_; first | refine s_ret' hw ?_ | refine s_pass' hw ?_ | refine s_brk' hw ?_ | refine s_cnt' hw ?_ | refine s_exp' hw ?_ | refine s_if' hw ?_ | refine s_put' hw ?_ | refine s_for' hw ?_ (hc := cm_is_taker) | refine y_is_taker_0 hw ?_) | (refine isG ?_; first | refine g_sb hw ?_ (hc := cm_is_taker) | refine g_tp2 hw ?_ (hc := cm_is_taker) | refine z_is_taker_0 hw ?_) | (refine isI ?_; first | refine i_name hw ?_ | refine i_tup' hw ?_ | refine i_lst' hw ?_) | refine e_and1 ?_ | refine e_and2 ?_ | refine e_or1 ?_ | refine e_or2 ?_ | refine o_none ?_ | refine o_some ?_ | refine p_nil ?_ | refine p_cons ?_ | refine a_nil ?_ | refine a_cons ?_ | refine t_and1 ?_ | refine t_and2 ?_ | refine t_or1 ?_ | refine t_or2 ?_ | refine k_bl ?_ | refine k_int ?_ | refine nd_tru ?_ | refine if_t ?_ | refine if_f ?_ | refine b_nil ?_ | refine b_cons ?_ | refine g_nil ?_ | refine g_cons ?_ | refine o_add ?_ | refine o_sub ?_ | refine o_neg ?_ | refine o_nt ?_ | refine c_lt ?_ | refine c_le ?_ | refine c_gt ?_ | refine c_ge ?_ | refine c_eqI ?_ | refine c_eqS ?_ | refine c_neS ?_ | refine c_neI ?_ | refine c_eqB ?_ | refine if_tc (by decide +kernel) ?_ | refine if_fc (by decide +kernel) ?_ | refine ne_c ?_ | refine isi_non_str ?_ | refine isi_non_tuple ?_ | refine isi_bl_str ?_ | refine isi_bl_tuple ?_ | refine isi_int_str ?_ | refine isi_int_tuple ?_ | refine isi_str_str ?_ | refine isi_str_tuple ?_ | refine isi_tup_str ?_ | refine isi_tup_tuple ?_ | refine isi_rol_str ?_ | refine isi_rol_tuple ?_ | refine isi_ref (by assumption) (by decide) ?_ | refine c_leB1 ?_ | refine c_leB2 ?_ | refine c_in2 ?_ | refine c_in3 ?_ | refine c_in4 ?_ | refine c_in5 ?_ | refine c_ni2 ?_ | refine c_ni4 ?_ | refine c_ni5 ?_ | refine c_eqT0 ?_ | refine c_eqT1 ?_ | refine l_tup ?_ | refine l_rol ?_ | refine l_ref (by assumption) ?_ | refine x_d0 (by assumption) ?_ | refine x_d1 (by assumption) ?_ | refine x_d2 (by assumption) ?_ | refine x_d3 (by assumption) ?_ | refine x_d0 tupd_same ?_ | refine x_d1 tupd_same ?_ | refine x_d2 tupd_same ?_ | refine x_d3 tupd_same ?_ | refine d_go4 ?_ | refine r_bl ?_ | refine r_bl4 (by assumption) ?_ | refine r_bl4 tupd_same ?_ | refine m_min ?_ | refine m_max ?_ | refine m_abs ?_ | refine x_t0 ?_ | refine x_t1 ?_ | refine x_t2 ?_) | (refine len_go ?_ ?_; · (simp; done)) | (refine o_mod ?_ ?_; · (first | decide | omega)) | (refine o_pow ⟨by decide, by decide, by decide⟩ ?_) | (refine o_mul (cmul ?_ ?_ ?_ ?_) ?_; (· omega); (· omega); (· omega); (· omega)) | (refine o_div (cdiv ?_ ?_) ?_; (· omega); (· omega)) | (refine if_tc ?_ ?_; · (first | rfl | (simp; done) | (simp; omega))) | (refine if_fc ?_ ?_; · (first | rfl | (simp; done) | (simp; omega))) | refine if_c (fun _ => ?_) (fun _ => ?_) | intro _ _)
  all_goals exact h
def sp_need_taker : TSp := fun vs H E Q => ∃ x, vs = [x] ∧ Tg H x ∧ (isTaker x = true → Q .non H) ∧ (isTaker x = false → E ⟨"BadTaker", []⟩ H)
theorem u_need_taker {x : TV} {H : TH} {E : TX} {Q : TQ} (hk : Tg H x) (h1 : isTaker x = true → Q .non H) (h2 : isTaker x = false → E ⟨"BadTaker", []⟩ H) : sp_need_taker [x] H E Q := ⟨x, rfl, hk, h1, h2⟩
def G_need_taker : GE := gOf [("is_taker", sp_is_taker)] [] KS
theorem rs_need_taker_BadTaker {w : Nat → WP} {n : Nat} {σ : TSt} {H : TH} {D : TEnds} {p q pos : Pos} {a : Expr} {es : List Expr} (hw : Steps w) (h : argsW ((w n).e S_need_taker G_need_taker) (a :: es) σ H (fun x H1 => D.ex x σ H1) fun xs H1 => xs ≠ [] ∧ ci_BadTaker.xk xs H1 fun fs => D.ex ⟨"BadTaker", fs⟩ σ H1) (hs : noStars (a :: es) = true := by decide +kernel) : (w (n + 1)).s S_need_taker G_need_taker (.Raise (some (.Call (.Name "BadTaker" p) (a :: es) [] q)) none pos) D σ H := s_rse hw g_need_taker_BadTaker (by kernel_rfl) rfl hs h
theorem c_need_taker_is_taker : G_need_taker.fn "is_taker" = some (sp_is_taker) := by kernel_rfl
theorem w_need_taker_is_taker {w : Nat → WP} {n : Nat} {σ : TSt} {H : TH} {E : TX} {Q : TQ} {p pos : Pos} {es : List Expr} (hw : Steps w) (h : argsW ((w n).e S_need_taker G_need_taker) es σ H E fun xs H1 => sp_is_taker xs H1 E Q) (hi : noIsi "is_taker" es = true := by decide +kernel) (hs : noStars es = true := by decide +kernel) : (w (n + 1)).e S_need_taker G_need_taker (.Call (.Name "is_taker" p) es [] pos) σ H E Q := e_call hw g_need_taker_is_taker (by kernel_rfl) hi c_need_taker_is_taker hs h
theorem w_need_taker_BadTaker {w : Nat → WP} {n : Nat} {σ : TSt} {H : TH} {E : TX} {Q : TQ} {p pos : Pos} {es : List Expr} (hw : Steps w) (h : argsW ((w n).e S_need_taker G_need_taker) es σ H E fun xs H1 => xs ≠ [] ∧ ci_BadTaker.xk xs H1 fun fs => ∀ p, H1 p = none → Q (.ref p) (tupd H1 p (.exc "BadTaker" fs))) (hi : noIsi "BadTaker" es = true := by decide +kernel) (hs : noStars es = true := by decide +kernel) : (w (n + 1)).e S_need_taker G_need_taker (.Call (.Name "BadTaker" p) es [] pos) σ H E Q := e_mk hw g_need_taker_BadTaker (by kernel_rfl) hi (by kernel_rfl) (by kernel_rfl) rfl hs h
theorem bd_need_taker {w : Nat → WP} (hw : Steps w) {v0 : TV} {H : TH} {E : TX} {Q : TQ} (h : sp_need_taker [v0] H E Q) : blockW ((w 40).s S_need_taker G_need_taker) (defBody st_need_taker) ⟨fun _ H => Q .non H, Q, fun _ _ => False, fun _ _ => False, fun e _ H => E e H⟩ [some v0] H := by
  obtain ⟨x, e, hk, h1, h2⟩ := h
  cases e
  refine b_cons ?_
  repeat' (first | (with_reducible first | refine u1 (by assumption) ?_ | (refine isE ?_; first | refine x_need_taker_0 hw ?_ | refine w_need_taker_is_taker hw ?_ | refine e_none hw ?_ | refine e_bool hw ?_ | refine e_int hw ?_ | refine e_str hw ?_ | refine e_bin hw ?_ | refine e_una hw ?_ | refine e_and hw ?_ | refine e_or hw ?_ | refine e_ife hw ?_ | refine e_cmp hw ?_ | refine e_cmp2 hw ?_ | refine e_sub hw ?_ | refine e_sl hw ?_ | refine e_tup hw ?_ | refine e_lst hw ?_ | refine e_dct hw ?_ | refine w_need_taker_BadTaker hw ?_) | (refine isT ?_; first | refine t_not hw ?_ | refine t_and hw ?_ | refine t_or hw ?_ | refine t_cmp hw ?_ | refine t_cmp2 hw ?_ | refine t_name hw ?_ | refine t_call hw ?_ | refine t_sub hw ?_) | (refine isS ?_; first | refine s_ret' hw ?_ | refine s_pass' hw ?_ | refine s_brk' hw ?_ | refine s_cnt' hw ?_ | refine s_exp' hw ?_ | refine s_if' hw ?_ | refine s_put' hw ?_ | refine rs_need_taker_BadTaker hw ?_ | refine s_for' hw ?_ (hc := cm_need_taker) | refine y_need_taker_0 hw ?_) | (refine isG ?_; first | refine g_sb hw ?_ (hc := cm_need_taker) | refine g_tp2 hw ?_ (hc := cm_need_taker) | refine z_need_taker_0 hw ?_) | (refine isI ?_; first | refine i_name hw ?_ | refine i_tup' hw ?_ | refine i_lst' hw ?_) | refine e_and1 ?_ | refine e_and2 ?_ | refine e_or1 ?_ | refine e_or2 ?_ | refine o_none ?_ | refine o_some ?_ | refine p_nil ?_ | refine p_cons ?_ | refine a_nil ?_ | refine a_cons ?_ | refine t_and1 ?_ | refine t_and2 ?_ | refine t_or1 ?_ | refine t_or2 ?_ | refine k_bl ?_ | refine k_int ?_ | refine nd_tru ?_ | refine if_t ?_ | refine if_f ?_ | refine b_nil ?_ | refine b_cons ?_ | refine g_nil ?_ | refine g_cons ?_ | refine o_add ?_ | refine o_sub ?_ | refine o_neg ?_ | refine o_nt ?_ | refine c_lt ?_ | refine c_le ?_ | refine c_gt ?_ | refine c_ge ?_ | refine c_eqI ?_ | refine c_eqS ?_ | refine c_neS ?_ | refine c_neI ?_ | refine c_eqB ?_ | refine if_tc (by decide +kernel) ?_ | refine if_fc (by decide +kernel) ?_ | refine xk_BadTaker ?_ | refine ne_c ?_ | refine c_leB1 ?_ | refine c_leB2 ?_ | refine c_in2 ?_ | refine c_in3 ?_ | refine c_in4 ?_ | refine c_in5 ?_ | refine c_ni2 ?_ | refine c_ni4 ?_ | refine c_ni5 ?_ | refine c_eqT0 ?_ | refine c_eqT1 ?_ | refine l_tup ?_ | refine l_rol ?_ | refine l_ref (by assumption) ?_ | refine x_d0 (by assumption) ?_ | refine x_d1 (by assumption) ?_ | refine x_d2 (by assumption) ?_ | refine x_d3 (by assumption) ?_ | refine x_d0 tupd_same ?_ | refine x_d1 tupd_same ?_ | refine x_d2 tupd_same ?_ | refine x_d3 tupd_same ?_ | refine d_go4 ?_ | refine r_bl ?_ | refine r_bl4 (by assumption) ?_ | refine r_bl4 tupd_same ?_ | refine m_min ?_ | refine m_max ?_ | refine m_abs ?_ | refine x_t0 ?_ | refine x_t1 ?_ | refine x_t2 ?_) | (refine len_go ?_ ?_; · (simp; done)) | (refine o_mod ?_ ?_; · (first | decide | omega)) | (refine o_pow ⟨by decide, by decide, by decide⟩ ?_) | (refine o_mul (cmul ?_ ?_ ?_ ?_) ?_; (· omega); (· omega); (· omega); (· omega)) | (refine o_div (cdiv ?_ ?_) ?_; (· omega); (· omega)) | (refine if_tc ?_ ?_; · (first | rfl | (simp; done) | (simp; omega))) | (refine if_fc ?_ ?_; · (first | rfl | (simp; done) | (simp; omega))) | refine if_c (fun _ => ?_) (fun _ => ?_) | intro _ _)
  all_goals first | exact h2 (by simp_all) | exact h1 (by simp_all)
end K06


set_option Elab.async false
set_option linter.all false
set_option maxRecDepth 100000
set_option maxHeartbeats 4000000
namespace K06
open PySem PySem.Spec L2 TL
abbrev sp_Lis_within : TSp := spWhole
def G_Lis_within : GE := gOf [] [] []
theorem bd_Lis_within {w : Nat → WP} (hw : Steps w) {v0 v1 v2 : TV} {H : TH} {E : TX} {Q : TQ} (h : sp_Lis_within [v0, v1, v2] H E Q) : blockW ((w 40).s S_Lis_within G_Lis_within) (defBody st_Lis_within) ⟨fun _ H => Q .non H, Q, fun _ _ => False, fun _ _ => False, fun e _ H => E e H⟩ [some v0, some v1, some v2] H := by
  obtain ⟨x, lo, hi, e, hk, h⟩ := h
  cases e
  refine b_cons ?_
  cases v0
  all_goals
    repeat' (first | (with_reducible first | (refine isE ?_; first | refine x_Lis_within_0 hw ?_ | refine x_Lis_within_1 hw ?_ | refine x_Lis_within_2 hw ?_ | refine e_bf hw g_Lis_within_int b_int (by decide +kernel) (by decide +kernel) ?_ | refine e_none hw ?_ | refine e_bool hw ?_ | refine e_int hw ?_ | refine e_str hw ?_ | refine e_bin hw ?_ | refine e_una hw ?_ | refine e_and hw ?_ | refine e_or hw ?_ | refine e_ife hw ?_ | refine e_cmp hw ?_ | refine e_cmp2 hw ?_ | refine e_sub hw ?_ | refine e_sl hw ?_ | refine e_tup hw ?_ | refine e_lst hw ?_ | refine e_dct hw ?_ | refine e_isi hw g_Lis_within_isinstance g_Lis_within_int nm_int (by decide) (by decide +kernel) ?_ | refine e_isi hw g_Lis_within_isinstance g_Lis_within_bool nm_bool (by decide) (by decide +kernel) ?_) | (refine isT ?_; first | refine t_not hw ?_ | refine t_and hw ?_ | refine t_or hw ?_ | refine t_cmp hw ?_ | refine t_cmp2 hw ?_ | refine t_name hw ?_ | refine t_call hw ?_ | refine t_sub hw ?_) | (refine isS ?_; first | refine s_ret' hw ?_ | refine s_pass' hw ?_ | refine s_brk' hw ?_ | refine s_cnt' hw ?_ | refine s_exp' hw ?_ | refine s_if' hw ?_ | refine s_put' hw ?_ | refine s_for' hw ?_ (hc := cm_Lis_within) | refine y_Lis_within_0 hw ?_ | refine y_Lis_within_1 hw ?_ | refine y_Lis_within_2 hw ?_) | (refine isG ?_; first | refine g_sb hw ?_ (hc := cm_Lis_within) | refine g_tp2 hw ?_ (hc := cm_Lis_within) | refine z_Lis_within_0 hw ?_ | refine z_Lis_within_1 hw ?_ | refine z_Lis_within_2 hw ?_) | (refine isI ?_; first | refine i_name hw ?_ | refine i_tup' hw ?_ | refine i_lst' hw ?_) | refine e_and1 ?_ | refine e_and2 ?_ | refine e_or1 ?_ | refine e_or2 ?_ | refine o_none ?_ | refine o_some ?_ | refine p_nil ?_ | refine p_cons ?_ | refine a_nil ?_ | refine a_cons ?_ | refine t_and1 ?_ | refine t_and2 ?_ | refine t_or1 ?_ | refine t_or2 ?_ | refine k_bl ?_ | refine k_int ?_ | refine nd_tru ?_ | refine if_t ?_ | refine if_f ?_ | refine b_nil ?_ | refine b_cons ?_ | refine g_nil ?_ | refine g_cons ?_ | refine o_add ?_ | refine o_sub ?_ | refine o_neg ?_ | refine o_nt ?_ | refine c_lt ?_ | refine c_le ?_ | refine c_gt ?_ | refine c_ge ?_ | refine c_eqI ?_ | refine c_eqS ?_ | refine c_neS ?_ | refine c_neI ?_ | refine c_eqB ?_ | refine if_tc (by decide +kernel) ?_ | refine if_fc (by decide +kernel) ?_ | refine ne_c ?_ | refine isi_non_int ?_ | refine isi_non_bool ?_ | refine isi_bl_int ?_ | refine isi_bl_bool ?_ | refine isi_int_int ?_ | refine isi_int_bool ?_ | refine isi_str_int ?_ | refine isi_str_bool ?_ | refine isi_tup_int ?_ | refine isi_tup_bool ?_ | refine isi_rol_int ?_ | refine isi_rol_bool ?_ | refine isi_ref (by assumption) (by decide) ?_ | refine c_leB1 ?_ | refine c_leB2 ?_ | refine c_in2 ?_ | refine c_in3 ?_ | refine c_in4 ?_ | refine c_in5 ?_ | refine c_ni2 ?_ | refine c_ni4 ?_ | refine c_ni5 ?_ | refine c_eqT0 ?_ | refine c_eqT1 ?_ | refine l_tup ?_ | refine l_rol ?_ | refine l_ref (by assumption) ?_ | refine x_d0 (by assumption) ?_ | refine x_d1 (by assumption) ?_ | refine x_d2 (by assumption) ?_ | refine x_d3 (by assumption) ?_ | refine x_d0 tupd_same ?_ | refine x_d1 tupd_same ?_ | refine x_d2 tupd_same ?_ | refine x_d3 tupd_same ?_ | refine d_go4 ?_ | refine r_bl ?_ | refine r_bl4 (by assumption) ?_ | refine r_bl4 tupd_same ?_ | refine m_min ?_ | refine m_max ?_ | refine m_abs ?_ | refine x_t0 ?_ | refine x_t1 ?_ | refine x_t2 ?_) | (refine len_go ?_ ?_; · (simp; done)) | (refine o_mod ?_ ?_; · (first | decide | omega)) | (refine o_pow ⟨by decide, by decide, by decide⟩ ?_) | (refine o_mul (cmul ?_ ?_ ?_ ?_) ?_; (· omega); (· omega); (· omega); (· omega)) | (refine o_div (cdiv ?_ ?_) ?_; (· omega); (· omega)) | (refine if_tc ?_ ?_; · (first | rfl | (simp; done) | (simp; omega))) | (refine if_fc ?_ ?_; · (first | rfl | (simp; done) | (simp; omega))) | refine if_c (fun _ => ?_) (fun _ => ?_) | intro _ _)
  all_goals (refine bl_of h ?_; clear h; simp_all [isW] <;> omega)
abbrev sp_Lis_test : TSp := sp1 isTest
def G_Lis_test : GE := gOf [("_law_is_within", sp_Lis_within)] [] []
theorem c_Lis_test_Lis_within : G_Lis_test.fn "_law_is_within" = some (sp_Lis_within) := by kernel_rfl
theorem w_Lis_test_Lis_within {w : Nat → WP} {n : Nat} {σ : TSt} {H : TH} {E : TX} {Q : TQ} {p pos : Pos} {es : List Expr} (hw : Steps w) (h : argsW ((w n).e S_Lis_test G_Lis_test) es σ H E fun xs H1 => sp_Lis_within xs H1 E Q) (hi : noIsi "_law_is_within" es = true := by decide +kernel) (hs : noStars es = true := by decide +kernel) : (w (n + 1)).e S_Lis_test G_Lis_test (.Call (.Name "_law_is_within" p) es [] pos) σ H E Q := e_call hw g_Lis_test_Lis_within (by kernel_rfl) hi c_Lis_test_Lis_within hs h
theorem bd_Lis_test {w : Nat → WP} (hw : Steps w) {v0 : TV} {H : TH} {E : TX} {Q : TQ} (h : sp_Lis_test [v0] H E Q) : blockW ((w 40).s S_Lis_test G_Lis_test) (defBody st_Lis_test) ⟨fun _ H => Q .non H, Q, fun _ _ => False, fun _ _ => False, fun e _ H => E e H⟩ [some v0] H := by
  obtain ⟨x, e, hk, h⟩ := h
  cases e
  refine b_cons ?_
  have hk0 := hk.kn
  cases v0
  case tup l =>
    match l, hk, h with
    | [], hk, h =>
      repeat' (first | (with_reducible first | (refine isE ?_; first | refine x_Lis_test_0 hw ?_ | refine e_bf hw g_Lis_test_tuple b_tuple (by decide +kernel) (by decide +kernel) ?_ | refine e_bf hw g_Lis_test_str b_str (by decide +kernel) (by decide +kernel) ?_ | refine e_bf hw g_Lis_test_len b_len (by decide +kernel) (by decide +kernel) ?_ | refine w_Lis_test_Lis_within hw ?_ | refine e_none hw ?_ | refine e_bool hw ?_ | refine e_int hw ?_ | refine e_str hw ?_ | refine e_bin hw ?_ | refine e_una hw ?_ | refine e_and hw ?_ | refine e_or hw ?_ | refine e_ife hw ?_ | refine e_cmp hw ?_ | refine e_cmp2 hw ?_ | refine e_sub hw ?_ | refine e_sl hw ?_ | refine e_tup hw ?_ | refine e_lst hw ?_ | refine e_dct hw ?_ | refine e_isi hw g_Lis_test_isinstance g_Lis_test_tuple nm_tuple (by decide) (by decide +kernel) ?_ | refine e_isi hw g_Lis_test_isinstance g_Lis_test_str nm_str (by decide) (by decide +kernel) ?_) | (refine isT ?_; first | refine t_not hw ?_ | refine t_and hw ?_ | refine t_or hw ?_ | refine t_cmp hw ?_ | refine t_cmp2 hw ?_ | refine t_name hw ?_ | refine t_call hw ?_ | refine t_sub hw ?_) | (refine isS ?_; first | refine s_ret' hw ?_ | refine s_pass' hw ?_ | refine s_brk' hw ?_ | refine s_cnt' hw ?_ | refine s_exp' hw ?_ | refine s_if' hw ?_ | refine s_put' hw ?_ | refine s_for' hw ?_ (hc := cm_Lis_test) | refine y_Lis_test_0 hw ?_) | (refine isG ?_; first | refine g_sb hw ?_ (hc := cm_Lis_test) | refine g_tp2 hw ?_ (hc := cm_Lis_test) | refine z_Lis_test_0 hw ?_) | (refine isI ?_; first | refine i_name hw ?_ | refine i_tup' hw ?_ | refine i_lst' hw ?_) | refine e_and1 ?_ | refine e_and2 ?_ | refine e_or1 ?_ | refine e_or2 ?_ | refine o_none ?_ | refine o_some ?_ | refine p_nil ?_ | refine p_cons ?_ | refine a_nil ?_ | refine a_cons ?_ | refine t_and1 ?_ | refine t_and2 ?_ | refine t_or1 ?_ | refine t_or2 ?_ | refine k_bl ?_ | refine k_int ?_ | refine nd_tru ?_ | refine if_t ?_ | refine if_f ?_ | refine b_nil ?_ | refine b_cons ?_ | refine g_nil ?_ | refine g_cons ?_ | refine o_add ?_ | refine o_sub ?_ | refine o_neg ?_ | refine o_nt ?_ | refine c_lt ?_ | refine c_le ?_ | refine c_gt ?_ | refine c_ge ?_ | refine c_eqI ?_ | refine c_eqS ?_ | refine c_neS ?_ | refine c_neI ?_ | refine c_eqB ?_ | refine if_tc (by decide +kernel) ?_ | refine if_fc (by decide +kernel) ?_ | refine ne_c ?_ | refine isi_non_str ?_ | refine isi_non_tuple ?_ | refine isi_bl_str ?_ | refine isi_bl_tuple ?_ | refine isi_int_str ?_ | refine isi_int_tuple ?_ | refine isi_str_str ?_ | refine isi_str_tuple ?_ | refine isi_tup_str ?_ | refine isi_tup_tuple ?_ | refine isi_rol_str ?_ | refine isi_rol_tuple ?_ | refine isi_ref (by assumption) (by decide) ?_ | refine c_leB1 ?_ | refine c_leB2 ?_ | refine c_in2 ?_ | refine c_in3 ?_ | refine c_in4 ?_ | refine c_in5 ?_ | refine c_ni2 ?_ | refine c_ni4 ?_ | refine c_ni5 ?_ | refine c_eqT0 ?_ | refine c_eqT1 ?_ | refine l_tup ?_ | refine l_rol ?_ | refine l_ref (by assumption) ?_ | refine x_d0 (by assumption) ?_ | refine x_d1 (by assumption) ?_ | refine x_d2 (by assumption) ?_ | refine x_d3 (by assumption) ?_ | refine x_d0 tupd_same ?_ | refine x_d1 tupd_same ?_ | refine x_d2 tupd_same ?_ | refine x_d3 tupd_same ?_ | refine d_go4 ?_ | refine r_bl ?_ | refine r_bl4 (by assumption) ?_ | refine r_bl4 tupd_same ?_ | refine m_min ?_ | refine m_max ?_ | refine m_abs ?_ | refine x_t0 ?_ | refine x_t1 ?_ | refine x_t2 ?_) | (refine len_go ?_ ?_; · (simp; done)) | (refine o_mod ?_ ?_; · (first | decide | omega)) | (refine o_pow ⟨by decide, by decide, by decide⟩ ?_) | (refine o_mul (cmul ?_ ?_ ?_ ?_) ?_; (· omega); (· omega); (· omega); (· omega)) | (refine o_div (cdiv ?_ ?_) ?_; (· omega); (· omega)) | (refine if_tc ?_ ?_; · (first | rfl | (simp; done) | (simp; omega))) | (refine if_fc ?_ ?_; · (first | rfl | (simp; done) | (simp; omega))) | refine if_c (fun _ => ?_) (fun _ => ?_) | intro _ _)
      all_goals exact h
    | a :: r, hk, h =>
      have ka : Kn H a := (hk.at (by simp)).kn
      cases a
      case str y =>
        have he := @even2 y
        have h1 := @even1 y
        match r, hk, h with
        | [], hk, h =>
          repeat' (first | (with_reducible first | refine u_whole (by first | assumption | exact kn_int | exact kn_str | exact kn_bl | exact kn_non | exact kn_tup | exact kn_rol) ?_ | refine c_inT2 ?_ | (refine isE ?_; first | refine x_Lis_test_0 hw ?_ | refine e_bf hw g_Lis_test_tuple b_tuple (by decide +kernel) (by decide +kernel) ?_ | refine e_bf hw g_Lis_test_str b_str (by decide +kernel) (by decide +kernel) ?_ | refine e_bf hw g_Lis_test_len b_len (by decide +kernel) (by decide +kernel) ?_ | refine w_Lis_test_Lis_within hw ?_ | refine e_none hw ?_ | refine e_bool hw ?_ | refine e_int hw ?_ | refine e_str hw ?_ | refine e_bin hw ?_ | refine e_una hw ?_ | refine e_and hw ?_ | refine e_or hw ?_ | refine e_ife hw ?_ | refine e_cmp hw ?_ | refine e_cmp2 hw ?_ | refine e_sub hw ?_ | refine e_sl hw ?_ | refine e_tup hw ?_ | refine e_lst hw ?_ | refine e_dct hw ?_ | refine e_isi hw g_Lis_test_isinstance g_Lis_test_tuple nm_tuple (by decide) (by decide +kernel) ?_ | refine e_isi hw g_Lis_test_isinstance g_Lis_test_str nm_str (by decide) (by decide +kernel) ?_) | (refine isT ?_; first | refine t_not hw ?_ | refine t_and hw ?_ | refine t_or hw ?_ | refine t_cmp hw ?_ | refine t_cmp2 hw ?_ | refine t_name hw ?_ | refine t_call hw ?_ | refine t_sub hw ?_) | (refine isS ?_; first | refine s_ret' hw ?_ | refine s_pass' hw ?_ | refine s_brk' hw ?_ | refine s_cnt' hw ?_ | refine s_exp' hw ?_ | refine s_if' hw ?_ | refine s_put' hw ?_ | refine s_for' hw ?_ (hc := cm_Lis_test) | refine y_Lis_test_0 hw ?_) | (refine isG ?_; first | refine g_sb hw ?_ (hc := cm_Lis_test) | refine g_tp2 hw ?_ (hc := cm_Lis_test) | refine z_Lis_test_0 hw ?_) | (refine isI ?_; first | refine i_name hw ?_ | refine i_tup' hw ?_ | refine i_lst' hw ?_) | refine e_and1 ?_ | refine e_and2 ?_ | refine e_or1 ?_ | refine e_or2 ?_ | refine o_none ?_ | refine o_some ?_ | refine p_nil ?_ | refine p_cons ?_ | refine a_nil ?_ | refine a_cons ?_ | refine t_and1 ?_ | refine t_and2 ?_ | refine t_or1 ?_ | refine t_or2 ?_ | refine k_bl ?_ | refine k_int ?_ | refine nd_tru ?_ | refine if_t ?_ | refine if_f ?_ | refine b_nil ?_ | refine b_cons ?_ | refine g_nil ?_ | refine g_cons ?_ | refine o_add ?_ | refine o_sub ?_ | refine o_neg ?_ | refine o_nt ?_ | refine c_lt ?_ | refine c_le ?_ | refine c_gt ?_ | refine c_ge ?_ | refine c_eqI ?_ | refine c_eqS ?_ | refine c_neS ?_ | refine c_neI ?_ | refine c_eqB ?_ | refine if_tc (by decide +kernel) ?_ | refine if_fc (by decide +kernel) ?_ | refine ne_c ?_ | refine isi_non_str ?_ | refine isi_non_tuple ?_ | refine isi_bl_str ?_ | refine isi_bl_tuple ?_ | refine isi_int_str ?_ | refine isi_int_tuple ?_ | refine isi_str_str ?_ | refine isi_str_tuple ?_ | refine isi_tup_str ?_ | refine isi_tup_tuple ?_ | refine isi_rol_str ?_ | refine isi_rol_tuple ?_ | refine isi_ref (by assumption) (by decide) ?_ | refine c_leB1 ?_ | refine c_leB2 ?_ | refine c_in2 ?_ | refine c_in3 ?_ | refine c_in4 ?_ | refine c_in5 ?_ | refine c_ni2 ?_ | refine c_ni4 ?_ | refine c_ni5 ?_ | refine c_eqT0 ?_ | refine c_eqT1 ?_ | refine l_tup ?_ | refine l_rol ?_ | refine l_ref (by assumption) ?_ | refine x_d0 (by assumption) ?_ | refine x_d1 (by assumption) ?_ | refine x_d2 (by assumption) ?_ | refine x_d3 (by assumption) ?_ | refine x_d0 tupd_same ?_ | refine x_d1 tupd_same ?_ | refine x_d2 tupd_same ?_ | refine x_d3 tupd_same ?_ | refine d_go4 ?_ | refine r_bl ?_ | refine r_bl4 (by assumption) ?_ | refine r_bl4 tupd_same ?_ | refine m_min ?_ | refine m_max ?_ | refine m_abs ?_ | refine x_t0 ?_ | refine x_t1 ?_ | refine x_t2 ?_) | (refine len_go ?_ ?_; · (simp; done)) | (refine o_mod ?_ ?_; · (first | decide | omega)) | (refine o_pow ⟨by decide, by decide, by decide⟩ ?_) | (refine o_mul (cmul ?_ ?_ ?_ ?_) ?_; (· omega); (· omega); (· omega); (· omega)) | (refine o_div (cdiv ?_ ?_) ?_; (· omega); (· omega)) | (refine if_tc ?_ ?_; · (first | rfl | (simp; done) | (simp; omega))) | (refine if_fc ?_ ?_; · (first | rfl | (simp; done) | (simp; omega))) | refine if_c (fun _ => ?_) (fun _ => ?_) | intro _ _)
          all_goals (refine bl_of h ?_; clear h; cases q1 : inS y ["over", "under"] <;> cases q2 : ("even" == y) <;> cases q3 : ("odd" == y) <;> simp_all [isTest, wordIn])
        | [b], hk, h =>
          have kb : Kn H b := (hk.at (by simp)).kn
          repeat' (first | (with_reducible first | refine u_whole (by first | assumption | exact kn_int | exact kn_str | exact kn_bl | exact kn_non | exact kn_tup | exact kn_rol) ?_ | refine c_inT2 ?_ | (refine isE ?_; first | refine x_Lis_test_0 hw ?_ | refine e_bf hw g_Lis_test_tuple b_tuple (by decide +kernel) (by decide +kernel) ?_ | refine e_bf hw g_Lis_test_str b_str (by decide +kernel) (by decide +kernel) ?_ | refine e_bf hw g_Lis_test_len b_len (by decide +kernel) (by decide +kernel) ?_ | refine w_Lis_test_Lis_within hw ?_ | refine e_none hw ?_ | refine e_bool hw ?_ | refine e_int hw ?_ | refine e_str hw ?_ | refine e_bin hw ?_ | refine e_una hw ?_ | refine e_and hw ?_ | refine e_or hw ?_ | refine e_ife hw ?_ | refine e_cmp hw ?_ | refine e_cmp2 hw ?_ | refine e_sub hw ?_ | refine e_sl hw ?_ | refine e_tup hw ?_ | refine e_lst hw ?_ | refine e_dct hw ?_ | refine e_isi hw g_Lis_test_isinstance g_Lis_test_tuple nm_tuple (by decide) (by decide +kernel) ?_ | refine e_isi hw g_Lis_test_isinstance g_Lis_test_str nm_str (by decide) (by decide +kernel) ?_) | (refine isT ?_; first | refine t_not hw ?_ | refine t_and hw ?_ | refine t_or hw ?_ | refine t_cmp hw ?_ | refine t_cmp2 hw ?_ | refine t_name hw ?_ | refine t_call hw ?_ | refine t_sub hw ?_) | (refine isS ?_; first | refine s_ret' hw ?_ | refine s_pass' hw ?_ | refine s_brk' hw ?_ | refine s_cnt' hw ?_ | refine s_exp' hw ?_ | refine s_if' hw ?_ | refine s_put' hw ?_ | refine s_for' hw ?_ (hc := cm_Lis_test) | refine y_Lis_test_0 hw ?_) | (refine isG ?_; first | refine g_sb hw ?_ (hc := cm_Lis_test) | refine g_tp2 hw ?_ (hc := cm_Lis_test) | refine z_Lis_test_0 hw ?_) | (refine isI ?_; first | refine i_name hw ?_ | refine i_tup' hw ?_ | refine i_lst' hw ?_) | refine e_and1 ?_ | refine e_and2 ?_ | refine e_or1 ?_ | refine e_or2 ?_ | refine o_none ?_ | refine o_some ?_ | refine p_nil ?_ | refine p_cons ?_ | refine a_nil ?_ | refine a_cons ?_ | refine t_and1 ?_ | refine t_and2 ?_ | refine t_or1 ?_ | refine t_or2 ?_ | refine k_bl ?_ | refine k_int ?_ | refine nd_tru ?_ | refine if_t ?_ | refine if_f ?_ | refine b_nil ?_ | refine b_cons ?_ | refine g_nil ?_ | refine g_cons ?_ | refine o_add ?_ | refine o_sub ?_ | refine o_neg ?_ | refine o_nt ?_ | refine c_lt ?_ | refine c_le ?_ | refine c_gt ?_ | refine c_ge ?_ | refine c_eqI ?_ | refine c_eqS ?_ | refine c_neS ?_ | refine c_neI ?_ | refine c_eqB ?_ | refine if_tc (by decide +kernel) ?_ | refine if_fc (by decide +kernel) ?_ | refine ne_c ?_ | refine isi_non_str ?_ | refine isi_non_tuple ?_ | refine isi_bl_str ?_ | refine isi_bl_tuple ?_ | refine isi_int_str ?_ | refine isi_int_tuple ?_ | refine isi_str_str ?_ | refine isi_str_tuple ?_ | refine isi_tup_str ?_ | refine isi_tup_tuple ?_ | refine isi_rol_str ?_ | refine isi_rol_tuple ?_ | refine isi_ref (by assumption) (by decide) ?_ | refine c_leB1 ?_ | refine c_leB2 ?_ | refine c_in2 ?_ | refine c_in3 ?_ | refine c_in4 ?_ | refine c_in5 ?_ | refine c_ni2 ?_ | refine c_ni4 ?_ | refine c_ni5 ?_ | refine c_eqT0 ?_ | refine c_eqT1 ?_ | refine l_tup ?_ | refine l_rol ?_ | refine l_ref (by assumption) ?_ | refine x_d0 (by assumption) ?_ | refine x_d1 (by assumption) ?_ | refine x_d2 (by assumption) ?_ | refine x_d3 (by assumption) ?_ | refine x_d0 tupd_same ?_ | refine x_d1 tupd_same ?_ | refine x_d2 tupd_same ?_ | refine x_d3 tupd_same ?_ | refine d_go4 ?_ | refine r_bl ?_ | refine r_bl4 (by assumption) ?_ | refine r_bl4 tupd_same ?_ | refine m_min ?_ | refine m_max ?_ | refine m_abs ?_ | refine x_t0 ?_ | refine x_t1 ?_ | refine x_t2 ?_) | (refine len_go ?_ ?_; · (simp; done)) | (refine o_mod ?_ ?_; · (first | decide | omega)) | (refine o_pow ⟨by decide, by decide, by decide⟩ ?_) | (refine o_mul (cmul ?_ ?_ ?_ ?_) ?_; (· omega); (· omega); (· omega); (· omega)) | (refine o_div (cdiv ?_ ?_) ?_; (· omega); (· omega)) | (refine if_tc ?_ ?_; · (first | rfl | (simp; done) | (simp; omega))) | (refine if_fc ?_ ?_; · (first | rfl | (simp; done) | (simp; omega))) | refine if_c (fun _ => ?_) (fun _ => ?_) | intro _ _)
          all_goals (refine bl_of h ?_; clear h; cases q1 : inS y ["over", "under"] <;> cases q2 : ("even" == y) <;> cases q3 : ("odd" == y) <;> simp_all [isTest, wordIn])
        | b :: c :: r, hk, h =>
          repeat' (first | (with_reducible first | refine u_whole (by first | assumption | exact kn_int | exact kn_str | exact kn_bl | exact kn_non | exact kn_tup | exact kn_rol) ?_ | refine c_inT2 ?_ | (refine isE ?_; first | refine x_Lis_test_0 hw ?_ | refine e_bf hw g_Lis_test_tuple b_tuple (by decide +kernel) (by decide +kernel) ?_ | refine e_bf hw g_Lis_test_str b_str (by decide +kernel) (by decide +kernel) ?_ | refine e_bf hw g_Lis_test_len b_len (by decide +kernel) (by decide +kernel) ?_ | refine w_Lis_test_Lis_within hw ?_ | refine e_none hw ?_ | refine e_bool hw ?_ | refine e_int hw ?_ | refine e_str hw ?_ | refine e_bin hw ?_ | refine e_una hw ?_ | refine e_and hw ?_ | refine e_or hw ?_ | refine e_ife hw ?_ | refine e_cmp hw ?_ | refine e_cmp2 hw ?_ | refine e_sub hw ?_ | refine e_sl hw ?_ | refine e_tup hw ?_ | refine e_lst hw ?_ | refine e_dct hw ?_ | refine e_isi hw g_Lis_test_isinstance g_Lis_test_tuple nm_tuple (by decide) (by decide +kernel) ?_ | refine e_isi hw g_Lis_test_isinstance g_Lis_test_str nm_str (by decide) (by decide +kernel) ?_) | (refine isT ?_; first | refine t_not hw ?_ | refine t_and hw ?_ | refine t_or hw ?_ | refine t_cmp hw ?_ | refine t_cmp2 hw ?_ | refine t_name hw ?_ | refine t_call hw ?_ | refine t_sub hw ?_) | (refine isS ?_; first | refine s_ret' hw ?_ | refine s_pass' hw ?_ | refine s_brk' hw ?_ | refine s_cnt' hw ?_ | refine s_exp' hw ?_ | refine s_if' hw ?_ | refine s_put' hw ?_ | refine s_for' hw ?_ (hc := cm_Lis_test) | refine y_Lis_test_0 hw ?_) | (refine isG ?_; first | refine g_sb hw ?_ (hc := cm_Lis_test) | refine g_tp2 hw ?_ (hc := cm_Lis_test) | refine z_Lis_test_0 hw ?_) | (refine isI ?_; first | refine i_name hw ?_ | refine i_tup' hw ?_ | refine i_lst' hw ?_) | refine e_and1 ?_ | refine e_and2 ?_ | refine e_or1 ?_ | refine e_or2 ?_ | refine o_none ?_ | refine o_some ?_ | refine p_nil ?_ | refine p_cons ?_ | refine a_nil ?_ | refine a_cons ?_ | refine t_and1 ?_ | refine t_and2 ?_ | refine t_or1 ?_ | refine t_or2 ?_ | refine k_bl ?_ | refine k_int ?_ | refine nd_tru ?_ | refine if_t ?_ | refine if_f ?_ | refine b_nil ?_ | refine b_cons ?_ | refine g_nil ?_ | refine g_cons ?_ | refine o_add ?_ | refine o_sub ?_ | refine o_neg ?_ | refine o_nt ?_ | refine c_lt ?_ | refine c_le ?_ | refine c_gt ?_ | refine c_ge ?_ | refine c_eqI ?_ | refine c_eqS ?_ | refine c_neS ?_ | refine c_neI ?_ | refine c_eqB ?_ | refine if_tc (by decide +kernel) ?_ | refine if_fc (by decide +kernel) ?_ | refine ne_c ?_ | refine isi_non_str ?_ | refine isi_non_tuple ?_ | refine isi_bl_str ?_ | refine isi_bl_tuple ?_ | refine isi_int_str ?_ | refine isi_int_tuple ?_ | refine isi_str_str ?_ | refine isi_str_tuple ?_ | refine isi_tup_str ?_ | refine isi_tup_tuple ?_ | refine isi_rol_str ?_ | refine isi_rol_tuple ?_ | refine isi_ref (by assumption) (by decide) ?_ | refine c_leB1 ?_ | refine c_leB2 ?_ | refine c_in2 ?_ | refine c_in3 ?_ | refine c_in4 ?_ | refine c_in5 ?_ | refine c_ni2 ?_ | refine c_ni4 ?_ | refine c_ni5 ?_ | refine c_eqT0 ?_ | refine c_eqT1 ?_ | refine l_tup ?_ | refine l_rol ?_ | refine l_ref (by assumption) ?_ | refine x_d0 (by assumption) ?_ | refine x_d1 (by assumption) ?_ | refine x_d2 (by assumption) ?_ | refine x_d3 (by assumption) ?_ | refine x_d0 tupd_same ?_ | refine x_d1 tupd_same ?_ | refine x_d2 tupd_same ?_ | refine x_d3 tupd_same ?_ | refine d_go4 ?_ | refine r_bl ?_ | refine r_bl4 (by assumption) ?_ | refine r_bl4 tupd_same ?_ | refine m_min ?_ | refine m_max ?_ | refine m_abs ?_ | refine x_t0 ?_ | refine x_t1 ?_ | refine x_t2 ?_) | (refine len_go ?_ ?_; · (simp; done)) | (refine o_mod ?_ ?_; · (first | decide | omega)) | (refine o_pow ⟨by decide, by decide, by decide⟩ ?_) | (refine o_mul (cmul ?_ ?_ ?_ ?_) ?_; (· omega); (· omega); (· omega); (· omega)) | (refine o_div (cdiv ?_ ?_) ?_; (· omega); (· omega)) | (refine if_tc ?_ ?_; · (first | rfl | (simp; done) | (simp; omega))) | (refine if_fc ?_ ?_; · (first | rfl | (simp; done) | (simp; omega))) | refine if_c (fun _ => ?_) (fun _ => ?_) | intro _ _)
          all_goals (refine bl_of h ?_; clear h; cases q1 : inS y ["over", "under"] <;> cases q2 : ("even" == y) <;> cases q3 : ("odd" == y) <;> simp_all [isTest, wordIn] <;> omega)
      all_goals
        repeat (first | (with_reducible first | (refine isE ?_; first | refine x_Lis_test_0 hw ?_ | refine e_bf hw g_Lis_test_tuple b_tuple (by decide +kernel) (by decide +kernel) ?_ | refine e_bf hw g_Lis_test_str b_str (by decide +kernel) (by decide +kernel) ?_ | refine e_bf hw g_Lis_test_len b_len (by decide +kernel) (by decide +kernel) ?_ | refine w_Lis_test_Lis_within hw ?_ | refine e_none hw ?_ | refine e_bool hw ?_ | refine e_int hw ?_ | refine e_str hw ?_ | refine e_bin hw ?_ | refine e_una hw ?_ | refine e_and hw ?_ | refine e_or hw ?_ | refine e_ife hw ?_ | refine e_cmp hw ?_ | refine e_cmp2 hw ?_ | refine e_sub hw ?_ | refine e_sl hw ?_ | refine e_tup hw ?_ | refine e_lst hw ?_ | refine e_dct hw ?_ | refine e_isi hw g_Lis_test_isinstance g_Lis_test_tuple nm_tuple (by decide) (by decide +kernel) ?_ | refine e_isi hw g_Lis_test_isinstance g_Lis_test_str nm_str (by decide) (by decide +kernel) ?_) | (refine isT ?_; first | refine t_not hw ?_ | refine t_and hw ?_ | refine t_or hw ?_ | refine t_cmp hw ?_ | refine t_cmp2 hw ?_ | refine t_name hw ?_ | refine t_call hw ?_ | refine t_sub hw ?_) | (refine isS ?_; first | refine s_ret' hw ?_ | refine s_pass' hw ?_ | refine s_brk' hw ?_ | refine s_cnt' hw ?_ | refine s_exp' hw ?_ | refine s_if' hw ?_ | refine s_put' hw ?_ | refine s_for' hw ?_ (hc := cm_Lis_test) | refine y_Lis_test_0 hw ?_) | (refine isG ?_; first | refine g_sb hw ?_ (hc := cm_Lis_test) | refine g_tp2 hw ?_ (hc := cm_Lis_test) | refine z_Lis_test_0 hw ?_) | (refine isI ?_; first | refine i_name hw ?_ | refine i_tup' hw ?_ | refine i_lst' hw ?_) | refine e_and1 ?_ | refine e_and2 ?_ | refine e_or1 ?_ | refine e_or2 ?_ | refine o_none ?_ | refine o_some ?_ | refine p_nil ?_ | refine p_cons ?_ | refine a_nil ?_ | refine a_cons ?_ | refine t_and1 ?_ | refine t_and2 ?_ | refine t_or1 ?_ | refine t_or2 ?_ | refine k_bl ?_ | refine k_int ?_ | refine nd_tru ?_ | refine if_t ?_ | refine if_f ?_ | refine b_nil ?_ | refine b_cons ?_ | refine g_nil ?_ | refine g_cons ?_ | refine o_add ?_ | refine o_sub ?_ | refine o_neg ?_ | refine o_nt ?_ | refine c_lt ?_ | refine c_le ?_ | refine c_gt ?_ | refine c_ge ?_ | refine c_eqI ?_ | refine c_eqS ?_ | refine c_neS ?_ | refine c_neI ?_ | refine c_eqB ?_ | refine if_tc (by decide +kernel) ?_ | refine if_fc (by decide +kernel) ?_ | refine ne_c ?_ | refine isi_non_str ?_ | refine isi_non_tuple ?_ | refine isi_bl_str ?_ | refine isi_bl_tuple ?_ | refine isi_int_str ?_ | refine isi_int_tuple ?_ | refine isi_str_str ?_ | refine isi_str_tuple ?_ | refine isi_tup_str ?_ | refine isi_tup_tuple ?_ | refine isi_rol_str ?_ | refine isi_rol_tuple ?_ | refine isi_ref (by assumption) (by decide) ?_ | refine c_leB1 ?_ | refine c_leB2 ?_ | refine c_in2 ?_ | refine c_in3 ?_ | refine c_in4 ?_ | refine c_in5 ?_ | refine c_ni2 ?_ | refine c_ni4 ?_ | refine c_ni5 ?_ | refine c_eqT0 ?_ | refine c_eqT1 ?_ | refine l_tup ?_ | refine l_rol ?_ | refine l_ref (by assumption) ?_ | refine x_d0 (by assumption) ?_ | refine x_d1 (by assumption) ?_ | refine x_d2 (by assumption) ?_ | refine x_d3 (by assumption) ?_ | refine x_d0 tupd_same ?_ | refine x_d1 tupd_same ?_ | refine x_d2 tupd_same ?_ | refine x_d3 tupd_same ?_ | refine d_go4 ?_ | refine r_bl ?_ | refine r_bl4 (by assumption) ?_ | refine r_bl4 tupd_same ?_ | refine m_min ?_ | refine m_max ?_ | refine m_abs ?_ | refine x_t0 ?_ | refine x_t1 ?_ | refine x_t2 ?_) | (refine len_go ?_ ?_; · (simp; done)) | (refine o_mod ?_ ?_; · (first | decide | omega)) | (refine o_pow ⟨by decide, by decide, by decide⟩ ?_) | (refine o_mul (cmul ?_ ?_ ?_ ?_) ?_; (· omega); (· omega); (· omega); (· omega)) | (refine o_div (cdiv ?_ ?_) ?_; (· omega); (· omega)) | (refine if_tc ?_ ?_; · (first | rfl | (simp; done) | (simp; omega))) | (refine if_fc ?_ ?_; · (first | rfl | (simp; done) | (simp; omega))))
      all_goals exact h
  all_goals
    repeat' (first | (with_reducible first | (refine isE ?_; first | refine x_Lis_test_0 hw ?_ | refine e_bf hw g_Lis_test_tuple b_tuple (by decide +kernel) (by decide +kernel) ?_ | refine e_bf hw g_Lis_test_str b_str (by decide +kernel) (by decide +kernel) ?_ | refine e_bf hw g_Lis_test_len b_len (by decide +kernel) (by decide +kernel) ?_ | refine w_Lis_test_Lis_within hw ?_ | refine e_none hw ?_ | refine e_bool hw ?_ | refine e_int hw ?_ | refine e_str hw ?_ | refine e_bin hw ?_ | refine e_una hw ?_ | refine e_and hw ?_ | refine e_or hw ?_ | refine e_ife hw ?_ | refine e_cmp hw ?_ | refine e_cmp2 hw ?_ | refine e_sub hw ?_ | refine e_sl hw ?_ | refine e_tup hw ?_ | refine e_lst hw ?_ | refine e_dct hw ?_ | refine e_isi hw g_Lis_test_isinstance g_Lis_test_tuple nm_tuple (by decide) (by decide +kernel) ?_ | refine e_isi hw g_Lis_test_isinstance g_Lis_test_str nm_str (by decide) (by decide +kernel) ?_) | (refine isT ?_; first | refine t_not hw ?_ | refine t_and hw ?_ | refine t_or hw ?_ | refine t_cmp hw ?_ | refine t_cmp2 hw ?_ | refine t_name hw ?_ | refine t_call hw ?_ | refine t_sub hw ?_) | (refine isS ?_; first | refine s_ret' hw ?_ | refine s_pass' hw ?_ | refine s_brk' hw ?_ | refine s_cnt' hw ?_ | refine s_exp' hw ?_ | refine s_if' hw ?_ | refine s_put' hw ?_ | refine s_for' hw ?_ (hc := cm_Lis_test) | refine y_Lis_test_0 hw ?_) | (refine isG ?_; first | refine g_sb hw ?_ (hc := cm_Lis_test) | refine g_tp2 hw ?_ (hc := cm_Lis_test) | refine z_Lis_test_0 hw ?_) | (refine isI ?_; first | refine i_name hw ?_ | refine i_tup' hw ?_ | refine i_lst' hw ?_) | refine e_and1 ?_ | refine e_and2 ?_ | refine e_or1 ?_ | refine e_or2 ?_ | refine o_none ?_ | refine o_some ?_ | refine p_nil ?_ | refine p_cons ?_ | refine a_nil ?_ | refine a_cons ?_ | refine t_and1 ?_ | refine t_and2 ?_ | refine t_or1 ?_ | refine t_or2 ?_ | refine k_bl ?_ | refine k_int ?_ | refine nd_tru ?_ | refine if_t ?_ | refine if_f ?_ | refine b_nil ?_ | refine b_cons ?_ | refine g_nil ?_ | refine g_cons ?_ | refine o_add ?_ | refine o_sub ?_ | refine o_neg ?_ | refine o_nt ?_ | refine c_lt ?_ | refine c_le ?_ | refine c_gt ?_ | refine c_ge ?_ | refine c_eqI ?_ | refine c_eqS ?_ | refine c_neS ?_ | refine c_neI ?_ | refine c_eqB ?_ | refine if_tc (by decide +kernel) ?_ | refine if_fc (by decide +kernel) ?_ | refine ne_c ?_ | refine isi_non_str ?_ | refine isi_non_tuple ?_ | refine isi_bl_str ?_ | refine isi_bl_tuple ?_ | refine isi_int_str ?_ | refine isi_int_tuple ?_ | refine isi_str_str ?_ | refine isi_str_tuple ?_ | refine isi_tup_str ?_ | refine isi_tup_tuple ?_ | refine isi_rol_str ?_ | refine isi_rol_tuple ?_ | refine isi_ref (by assumption) (by decide) ?_ | refine c_leB1 ?_ | refine c_leB2 ?_ | refine c_in2 ?_ | refine c_in3 ?_ | refine c_in4 ?_ | refine c_in5 ?_ | refine c_ni2 ?_ | refine c_ni4 ?_ | refine c_ni5 ?_ | refine c_eqT0 ?_ | refine c_eqT1 ?_ | refine l_tup ?_ | refine l_rol ?_ | refine l_ref (by assumption) ?_ | refine x_d0 (by assumption) ?_ | refine x_d1 (by assumption) ?_ | refine x_d2 (by assumption) ?_ | refine x_d3 (by assumption) ?_ | refine x_d0 tupd_same ?_ | refine x_d1 tupd_same ?_ | refine x_d2 tupd_same ?_ | refine x_d3 tupd_same ?_ | refine d_go4 ?_ | refine r_bl ?_ | refine r_bl4 (by assumption) ?_ | refine r_bl4 tupd_same ?_ | refine m_min ?_ | refine m_max ?_ | refine m_abs ?_ | refine x_t0 ?_ | refine x_t1 ?_ | refine x_t2 ?_) | (refine len_go ?_ ?_; · (simp; done)) | (refine o_mod ?_ ?_; · (first | decide | omega)) | (refine o_pow ⟨by decide, by decide, by decide⟩ ?_) | (refine o_mul (cmul ?_ ?_ ?_ ?_) ?_; (· omega); (· omega); (· omega); (· omega)) | (refine o_div (cdiv ?_ ?_) ?_; (· omega); (· omega)) | (refine if_tc ?_ ?_; · (first | rfl | (simp; done) | (simp; omega))) | (refine if_fc ?_ ?_; · (first | rfl | (simp; done) | (simp; omega))) | refine if_c (fun _ => ?_) (fun _ => ?_) | intro _ _)
  all_goals exact h
abbrev sp_Lis_so : TSp := sp1 isTaker
def G_Lis_so : GE := gOf [("_law_is_within", sp_Lis_within), ("_law_is_test", sp_Lis_test)] [] []
theorem c_Lis_so_Lis_within : G_Lis_so.fn "_law_is_within" = some (sp_Lis_within) := by kernel_rfl
theorem c_Lis_so_Lis_test : G_Lis_so.fn "_law_is_test" = some (sp_Lis_test) := by kernel_rfl
theorem w_Lis_so_Lis_within {w : Nat → WP} {n : Nat} {σ : TSt} {H : TH} {E : TX} {Q : TQ} {p pos : Pos} {es : List Expr} (hw : Steps w) (h : argsW ((w n).e S_Lis_so G_Lis_so) es σ H E fun xs H1 => sp_Lis_within xs H1 E Q) (hi : noIsi "_law_is_within" es = true := by decide +kernel) (hs : noStars es = true := by decide +kernel) : (w (n + 1)).e S_Lis_so G_Lis_so (.Call (.Name "_law_is_within" p) es [] pos) σ H E Q := e_call hw g_Lis_so_Lis_within (by kernel_rfl) hi c_Lis_so_Lis_within hs h
theorem w_Lis_so_Lis_test {w : Nat → WP} {n : Nat} {σ : TSt} {H : TH} {E : TX} {Q : TQ} {p pos : Pos} {es : List Expr} (hw : Steps w) (h : argsW ((w n).e S_Lis_so G_Lis_so) es σ H E fun xs H1 => sp_Lis_test xs H1 E Q) (hi : noIsi "_law_is_test" es = true := by decide +kernel) (hs : noStars es = true := by decide +kernel) : (w (n + 1)).e S_Lis_so G_Lis_so (.Call (.Name "_law_is_test" p) es [] pos) σ H E Q := e_call hw g_Lis_so_Lis_test (by kernel_rfl) hi c_Lis_so_Lis_test hs h
theorem bd_Lis_so {w : Nat → WP} (hw : Steps w) {v0 : TV} {H : TH} {E : TX} {Q : TQ} (h : sp_Lis_so [v0] H E Q) : blockW ((w 40).s S_Lis_so G_Lis_so) (defBody st_Lis_so) ⟨fun _ H => Q .non H, Q, fun _ _ => False, fun _ _ => False, fun e _ H => E e H⟩ [some v0, none] H := by
  obtain ⟨x, e, hk, h⟩ := h
  cases e
  refine b_cons ?_
  have hk0 := hk.kn
  cases v0
  case tup l =>
    match l, hk, h with
    | [], hk, h =>
      repeat' (first | (with_reducible first | (refine isE ?_; first | refine x_Lis_so_0 hw ?_ | refine x_Lis_so_1 hw ?_ | refine e_bf hw g_Lis_so_tuple b_tuple (by decide +kernel) (by decide +kernel) ?_ | refine e_bf hw g_Lis_so_str b_str (by decide +kernel) (by decide +kernel) ?_ | refine e_bf hw g_Lis_so_len b_len (by decide +kernel) (by decide +kernel) ?_ | refine w_Lis_so_Lis_within hw ?_ | refine w_Lis_so_Lis_test hw ?_ | refine e_none hw ?_ | refine e_bool hw ?_ | refine e_int hw ?_ | refine e_str hw ?_ | refine e_bin hw ?_ | refine e_una hw ?_ | refine e_and hw ?_ | refine e_or hw ?_ | refine e_ife hw ?_ | refine e_cmp hw ?_ | refine e_cmp2 hw ?_ | refine e_sub hw ?_ | refine e_sl hw ?_ | refine e_tup hw ?_ | refine e_lst hw ?_ | refine e_dct hw ?_ | refine e_isi hw g_Lis_so_isinstance g_Lis_so_tuple nm_tuple (by decide) (by decide +kernel) ?_ | refine e_isi hw g_Lis_so_isinstance g_Lis_so_str nm_str (by decide) (by decide +kernel) ?_) | (refine isT ?_; first | refine t_not hw ?_ | refine t_and hw ?_ | refine t_or hw ?_ | refine t_cmp hw ?_ | refine t_cmp2 hw ?_ | refine t_name hw ?_ | refine t_call hw ?_ | refine t_sub hw ?_) | (refine isS ?_; first | refine s_ret' hw ?_ | refine s_pass' hw ?_ | refine s_brk' hw ?_ | refine s_cnt' hw ?_ | refine s_exp' hw ?_ | refine s_if' hw ?_ | refine s_put' hw ?_ | refine s_for' hw ?_ (hc := cm_Lis_so) | refine y_Lis_so_0 hw ?_ | refine y_Lis_so_1 hw ?_) | (refine isG ?_; first | refine g_sb hw ?_ (hc := cm_Lis_so) | refine g_tp2 hw ?_ (hc := cm_Lis_so) | refine z_Lis_so_0 hw ?_ | refine z_Lis_so_1 hw ?_) | (refine isI ?_; first | refine i_name hw ?_ | refine i_tup' hw ?_ | refine i_lst' hw ?_) | refine e_and1 ?_ | refine e_and2 ?_ | refine e_or1 ?_ | refine e_or2 ?_ | refine o_none ?_ | refine o_some ?_ | refine p_nil ?_ | refine p_cons ?_ | refine a_nil ?_ | refine a_cons ?_ | refine t_and1 ?_ | refine t_and2 ?_ | refine t_or1 ?_ | refine t_or2 ?_ | refine k_bl ?_ | refine k_int ?_ | refine nd_tru ?_ | refine if_t ?_ | refine if_f ?_ | refine b_nil ?_ | refine b_cons ?_ | refine g_nil ?_ | refine g_cons ?_ | refine o_add ?_ | refine o_sub ?_ | refine o_neg ?_ | refine o_nt ?_ | refine c_lt ?_ | refine c_le ?_ | refine c_gt ?_ | refine c_ge ?_ | refine c_eqI ?_ | refine c_eqS ?_ | refine c_neS ?_ | refine c_neI ?_ | refine c_eqB ?_ | refine if_tc (by decide +kernel) ?_ | refine if_fc (by decide +kernel) ?_ | refine ne_c ?_ | refine isi_non_str ?_ | refine isi_non_tuple ?_ | refine isi_bl_str ?_ | refine isi_bl_tuple ?_ | refine isi_int_str ?_ | refine isi_int_tuple ?_ | refine isi_str_str ?_ | refine isi_str_tuple ?_ | refine isi_tup_str ?_ | refine isi_tup_tuple ?_ | refine isi_rol_str ?_ | refine isi_rol_tuple ?_ | refine isi_ref (by assumption) (by decide) ?_ | refine c_leB1 ?_ | refine c_leB2 ?_ | refine c_in2 ?_ | refine c_in3 ?_ | refine c_in4 ?_ | refine c_in5 ?_ | refine c_ni2 ?_ | refine c_ni4 ?_ | refine c_ni5 ?_ | refine c_eqT0 ?_ | refine c_eqT1 ?_ | refine l_tup ?_ | refine l_rol ?_ | refine l_ref (by assumption) ?_ | refine x_d0 (by assumption) ?_ | refine x_d1 (by assumption) ?_ | refine x_d2 (by assumption) ?_ | refine x_d3 (by assumption) ?_ | refine x_d0 tupd_same ?_ | refine x_d1 tupd_same ?_ | refine x_d2 tupd_same ?_ | refine x_d3 tupd_same ?_ | refine d_go4 ?_ | refine r_bl ?_ | refine r_bl4 (by assumption) ?_ | refine r_bl4 tupd_same ?_ | refine m_min ?_ | refine m_max ?_ | refine m_abs ?_ | refine x_t0 ?_ | refine x_t1 ?_ | refine x_t2 ?_) | (refine len_go ?_ ?_; · (simp; done)) | (refine o_mod ?_ ?_; · (first | decide | omega)) | (refine o_pow ⟨by decide, by decide, by decide⟩ ?_) | (refine o_mul (cmul ?_ ?_ ?_ ?_) ?_; (· omega); (· omega); (· omega); (· omega)) | (refine o_div (cdiv ?_ ?_) ?_; (· omega); (· omega)) | (refine if_tc ?_ ?_; · (first | rfl | (simp; done) | (simp; omega))) | (refine if_fc ?_ ?_; · (first | rfl | (simp; done) | (simp; omega))) | refine if_c (fun _ => ?_) (fun _ => ?_) | intro _ _)
      all_goals exact h
    | a :: r, hk, h =>
      have ka : Kn H a := (hk.at (by simp)).kn
      cases a
      case str y =>
        have d0_1 : (("all" : Str) = "first") = False := eq_false (by decide +kernel); have d0_2 : (("all" : Str) = "till") = False := eq_false (by decide +kernel); have d0_3 : (("all" : Str) = "fold") = False := eq_false (by decide +kernel); have d1_0 : (("first" : Str) = "all") = False := eq_false (by decide +kernel); have d1_2 : (("first" : Str) = "till") = False := eq_false (by decide +kernel); have d1_3 : (("first" : Str) = "fold") = False := eq_false (by decide +kernel); have d2_0 : (("till" : Str) = "all") = False := eq_false (by decide +kernel); have d2_1 : (("till" : Str) = "first") = False := eq_false (by decide +kernel); have d2_3 : (("till" : Str) = "fold") = False := eq_false (by decide +kernel); have d3_0 : (("fold" : Str) = "all") = False := eq_false (by decide +kernel); have d3_1 : (("fold" : Str) = "first") = False := eq_false (by decide +kernel); have d3_2 : (("fold" : Str) = "till") = False := eq_false (by decide +kernel)
        match r, hk, h with
        | [], hk, h =>
          repeat' (first | (with_reducible first | refine u_whole (by first | assumption | exact kn_int | exact kn_str | exact kn_bl | exact kn_non | exact kn_tup | exact kn_rol) ?_ | refine u1 (by assumption) ?_ | (refine isE ?_; first | refine x_Lis_so_0 hw ?_ | refine x_Lis_so_1 hw ?_ | refine e_bf hw g_Lis_so_tuple b_tuple (by decide +kernel) (by decide +kernel) ?_ | refine e_bf hw g_Lis_so_str b_str (by decide +kernel) (by decide +kernel) ?_ | refine e_bf hw g_Lis_so_len b_len (by decide +kernel) (by decide +kernel) ?_ | refine w_Lis_so_Lis_within hw ?_ | refine w_Lis_so_Lis_test hw ?_ | refine e_none hw ?_ | refine e_bool hw ?_ | refine e_int hw ?_ | refine e_str hw ?_ | refine e_bin hw ?_ | refine e_una hw ?_ | refine e_and hw ?_ | refine e_or hw ?_ | refine e_ife hw ?_ | refine e_cmp hw ?_ | refine e_cmp2 hw ?_ | refine e_sub hw ?_ | refine e_sl hw ?_ | refine e_tup hw ?_ | refine e_lst hw ?_ | refine e_dct hw ?_ | refine e_isi hw g_Lis_so_isinstance g_Lis_so_tuple nm_tuple (by decide) (by decide +kernel) ?_ | refine e_isi hw g_Lis_so_isinstance g_Lis_so_str nm_str (by decide) (by decide +kernel) ?_) | (refine isT ?_; first | refine t_not hw ?_ | refine t_and hw ?_ | refine t_or hw ?_ | refine t_cmp hw ?_ | refine t_cmp2 hw ?_ | refine t_name hw ?_ | refine t_call hw ?_ | refine t_sub hw ?_) | (refine isS ?_; first | refine s_ret' hw ?_ | refine s_pass' hw ?_ | refine s_brk' hw ?_ | refine s_cnt' hw ?_ | refine s_exp' hw ?_ | refine s_if' hw ?_ | refine s_put' hw ?_ | refine s_for' hw ?_ (hc := cm_Lis_so) | refine y_Lis_so_0 hw ?_ | refine y_Lis_so_1 hw ?_) | (refine isG ?_; first | refine g_sb hw ?_ (hc := cm_Lis_so) | refine g_tp2 hw ?_ (hc := cm_Lis_so) | refine z_Lis_so_0 hw ?_ | refine z_Lis_so_1 hw ?_) | (refine isI ?_; first | refine i_name hw ?_ | refine i_tup' hw ?_ | refine i_lst' hw ?_) | refine e_and1 ?_ | refine e_and2 ?_ | refine e_or1 ?_ | refine e_or2 ?_ | refine o_none ?_ | refine o_some ?_ | refine p_nil ?_ | refine p_cons ?_ | refine a_nil ?_ | refine a_cons ?_ | refine t_and1 ?_ | refine t_and2 ?_ | refine t_or1 ?_ | refine t_or2 ?_ | refine k_bl ?_ | refine k_int ?_ | refine nd_tru ?_ | refine if_t ?_ | refine if_f ?_ | refine b_nil ?_ | refine b_cons ?_ | refine g_nil ?_ | refine g_cons ?_ | refine o_add ?_ | refine o_sub ?_ | refine o_neg ?_ | refine o_nt ?_ | refine c_lt ?_ | refine c_le ?_ | refine c_gt ?_ | refine c_ge ?_ | refine c_eqI ?_ | refine c_eqS ?_ | refine c_neS ?_ | refine c_neI ?_ | refine c_eqB ?_ | refine if_tc (by decide +kernel) ?_ | refine if_fc (by decide +kernel) ?_ | refine ne_c ?_ | refine isi_non_str ?_ | refine isi_non_tuple ?_ | refine isi_bl_str ?_ | refine isi_bl_tuple ?_ | refine isi_int_str ?_ | refine isi_int_tuple ?_ | refine isi_str_str ?_ | refine isi_str_tuple ?_ | refine isi_tup_str ?_ | refine isi_tup_tuple ?_ | refine isi_rol_str ?_ | refine isi_rol_tuple ?_ | refine isi_ref (by assumption) (by decide) ?_ | refine c_leB1 ?_ | refine c_leB2 ?_ | refine c_in2 ?_ | refine c_in3 ?_ | refine c_in4 ?_ | refine c_in5 ?_ | refine c_ni2 ?_ | refine c_ni4 ?_ | refine c_ni5 ?_ | refine c_eqT0 ?_ | refine c_eqT1 ?_ | refine l_tup ?_ | refine l_rol ?_ | refine l_ref (by assumption) ?_ | refine x_d0 (by assumption) ?_ | refine x_d1 (by assumption) ?_ | refine x_d2 (by assumption) ?_ | refine x_d3 (by assumption) ?_ | refine x_d0 tupd_same ?_ | refine x_d1 tupd_same ?_ | refine x_d2 tupd_same ?_ | refine x_d3 tupd_same ?_ | refine d_go4 ?_ | refine r_bl ?_ | refine r_bl4 (by assumption) ?_ | refine r_bl4 tupd_same ?_ | refine m_min ?_ | refine m_max ?_ | refine m_abs ?_ | refine x_t0 ?_ | refine x_t1 ?_ | refine x_t2 ?_) | (refine len_go ?_ ?_; · (simp; done)) | (refine o_mod ?_ ?_; · (first | decide | omega)) | (refine o_pow ⟨by decide, by decide, by decide⟩ ?_) | (refine o_mul (cmul ?_ ?_ ?_ ?_) ?_; (· omega); (· omega); (· omega); (· omega)) | (refine o_div (cdiv ?_ ?_) ?_; (· omega); (· omega)) | (refine if_tc ?_ ?_; · (first | rfl | (simp; done) | (simp; omega))) | (refine if_fc ?_ ?_; · (first | rfl | (simp; done) | (simp; omega))) | refine if_c (fun _ => ?_) (fun _ => ?_) | intro _ _)
          all_goals (refine bl_of h ?_; clear h; simp_all [isTaker, sbeq])
        | [b], hk, h =>
          have tb : Tg H b := hk.at (by simp)
          have kb : Kn H b := tb.kn
          repeat' (first | (with_reducible first | refine u_whole (by first | assumption | exact kn_int | exact kn_str | exact kn_bl | exact kn_non | exact kn_tup | exact kn_rol) ?_ | refine u1 (by assumption) ?_ | (refine isE ?_; first | refine x_Lis_so_0 hw ?_ | refine x_Lis_so_1 hw ?_ | refine e_bf hw g_Lis_so_tuple b_tuple (by decide +kernel) (by decide +kernel) ?_ | refine e_bf hw g_Lis_so_str b_str (by decide +kernel) (by decide +kernel) ?_ | refine e_bf hw g_Lis_so_len b_len (by decide +kernel) (by decide +kernel) ?_ | refine w_Lis_so_Lis_within hw ?_ | refine w_Lis_so_Lis_test hw ?_ | refine e_none hw ?_ | refine e_bool hw ?_ | refine e_int hw ?_ | refine e_str hw ?_ | refine e_bin hw ?_ | refine e_una hw ?_ | refine e_and hw ?_ | refine e_or hw ?_ | refine e_ife hw ?_ | refine e_cmp hw ?_ | refine e_cmp2 hw ?_ | refine e_sub hw ?_ | refine e_sl hw ?_ | refine e_tup hw ?_ | refine e_lst hw ?_ | refine e_dct hw ?_ | refine e_isi hw g_Lis_so_isinstance g_Lis_so_tuple nm_tuple (by decide) (by decide +kernel) ?_ | refine e_isi hw g_Lis_so_isinstance g_Lis_so_str nm_str (by decide) (by decide +kernel) ?_) | (refine isT ?_; first | refine t_not hw ?_ | refine t_and hw ?_ | refine t_or hw ?_ | refine t_cmp hw ?_ | refine t_cmp2 hw ?_ | refine t_name hw ?_ | refine t_call hw ?_ | refine t_sub hw ?_) | (refine isS ?_; first | refine s_ret' hw ?_ | refine s_pass' hw ?_ | refine s_brk' hw ?_ | refine s_cnt' hw ?_ | refine s_exp' hw ?_ | refine s_if' hw ?_ | refine s_put' hw ?_ | refine s_for' hw ?_ (hc := cm_Lis_so) | refine y_Lis_so_0 hw ?_ | refine y_Lis_so_1 hw ?_) | (refine isG ?_; first | refine g_sb hw ?_ (hc := cm_Lis_so) | refine g_tp2 hw ?_ (hc := cm_Lis_so) | refine z_Lis_so_0 hw ?_ | refine z_Lis_so_1 hw ?_) | (refine isI ?_; first | refine i_name hw ?_ | refine i_tup' hw ?_ | refine i_lst' hw ?_) | refine e_and1 ?_ | refine e_and2 ?_ | refine e_or1 ?_ | refine e_or2 ?_ | refine o_none ?_ | refine o_some ?_ | refine p_nil ?_ | refine p_cons ?_ | refine a_nil ?_ | refine a_cons ?_ | refine t_and1 ?_ | refine t_and2 ?_ | refine t_or1 ?_ | refine t_or2 ?_ | refine k_bl ?_ | refine k_int ?_ | refine nd_tru ?_ | refine if_t ?_ | refine if_f ?_ | refine b_nil ?_ | refine b_cons ?_ | refine g_nil ?_ | refine g_cons ?_ | refine o_add ?_ | refine o_sub ?_ | refine o_neg ?_ | refine o_nt ?_ | refine c_lt ?_ | refine c_le ?_ | refine c_gt ?_ | refine c_ge ?_ | refine c_eqI ?_ | refine c_eqS ?_ | refine c_neS ?_ | refine c_neI ?_ | refine c_eqB ?_ | refine if_tc (by decide +kernel) ?_ | refine if_fc (by decide +kernel) ?_ | refine ne_c ?_ | refine isi_non_str ?_ | refine isi_non_tuple ?_ | refine isi_bl_str ?_ | refine isi_bl_tuple ?_ | refine isi_int_str ?_ | refine isi_int_tuple ?_ | refine isi_str_str ?_ | refine isi_str_tuple ?_ | refine isi_tup_str ?_ | refine isi_tup_tuple ?_ | refine isi_rol_str ?_ | refine isi_rol_tuple ?_ | refine isi_ref (by assumption) (by decide) ?_ | refine c_leB1 ?_ | refine c_leB2 ?_ | refine c_in2 ?_ | refine c_in3 ?_ | refine c_in4 ?_ | refine c_in5 ?_ | refine c_ni2 ?_ | refine c_ni4 ?_ | refine c_ni5 ?_ | refine c_eqT0 ?_ | refine c_eqT1 ?_ | refine l_tup ?_ | refine l_rol ?_ | refine l_ref (by assumption) ?_ | refine x_d0 (by assumption) ?_ | refine x_d1 (by assumption) ?_ | refine x_d2 (by assumption) ?_ | refine x_d3 (by assumption) ?_ | refine x_d0 tupd_same ?_ | refine x_d1 tupd_same ?_ | refine x_d2 tupd_same ?_ | refine x_d3 tupd_same ?_ | refine d_go4 ?_ | refine r_bl ?_ | refine r_bl4 (by assumption) ?_ | refine r_bl4 tupd_same ?_ | refine m_min ?_ | refine m_max ?_ | refine m_abs ?_ | refine x_t0 ?_ | refine x_t1 ?_ | refine x_t2 ?_) | (refine len_go ?_ ?_; · (simp; done)) | (refine o_mod ?_ ?_; · (first | decide | omega)) | (refine o_pow ⟨by decide, by decide, by decide⟩ ?_) | (refine o_mul (cmul ?_ ?_ ?_ ?_) ?_; (· omega); (· omega); (· omega); (· omega)) | (refine o_div (cdiv ?_ ?_) ?_; (· omega); (· omega)) | (refine if_tc ?_ ?_; · (first | rfl | (simp; done) | (simp; omega))) | (refine if_fc ?_ ?_; · (first | rfl | (simp; done) | (simp; omega))) | refine if_c (fun _ => ?_) (fun _ => ?_) | intro _ _)
          all_goals (refine bl_of h ?_; clear h; simp_all [isTaker, sbeq])
        | [b, c], hk, h =>
          have tb : Tg H b := hk.at (by simp)
          have kb : Kn H b := tb.kn
          have tc : Tg H c := hk.at (by simp)
          have kc : Kn H c := tc.kn
          cases b
          all_goals
            repeat' (first | (with_reducible first | refine u_whole (by first | assumption | exact kn_int | exact kn_str | exact kn_bl | exact kn_non | exact kn_tup | exact kn_rol) ?_ | refine u1 (by assumption) ?_ | (refine isE ?_; first | refine x_Lis_so_0 hw ?_ | refine x_Lis_so_1 hw ?_ | refine e_bf hw g_Lis_so_tuple b_tuple (by decide +kernel) (by decide +kernel) ?_ | refine e_bf hw g_Lis_so_str b_str (by decide +kernel) (by decide +kernel) ?_ | refine e_bf hw g_Lis_so_len b_len (by decide +kernel) (by decide +kernel) ?_ | refine w_Lis_so_Lis_within hw ?_ | refine w_Lis_so_Lis_test hw ?_ | refine e_none hw ?_ | refine e_bool hw ?_ | refine e_int hw ?_ | refine e_str hw ?_ | refine e_bin hw ?_ | refine e_una hw ?_ | refine e_and hw ?_ | refine e_or hw ?_ | refine e_ife hw ?_ | refine e_cmp hw ?_ | refine e_cmp2 hw ?_ | refine e_sub hw ?_ | refine e_sl hw ?_ | refine e_tup hw ?_ | refine e_lst hw ?_ | refine e_dct hw ?_ | refine e_isi hw g_Lis_so_isinstance g_Lis_so_tuple nm_tuple (by decide) (by decide +kernel) ?_ | refine e_isi hw g_Lis_so_isinstance g_Lis_so_str nm_str (by decide) (by decide +kernel) ?_) | (refine isT ?_; first | refine t_not hw ?_ | refine t_and hw ?_ | refine t_or hw ?_ | refine t_cmp hw ?_ | refine t_cmp2 hw ?_ | refine t_name hw ?_ | refine t_call hw ?_ | refine t_sub hw ?_) | (refine isS ?_; first | refine s_ret' hw ?_ | refine s_pass' hw ?_ | refine s_brk' hw ?_ | refine s_cnt' hw ?_ | refine s_exp' hw ?_ | refine s_if' hw ?_ | refine s_put' hw ?_ | refine s_for' hw ?_ (hc := cm_Lis_so) | refine y_Lis_so_0 hw ?_ | refine y_Lis_so_1 hw ?_) | (refine isG ?_; first | refine g_sb hw ?_ (hc := cm_Lis_so) | refine g_tp2 hw ?_ (hc := cm_Lis_so) | refine z_Lis_so_0 hw ?_ | refine z_Lis_so_1 hw ?_) | (refine isI ?_; first | refine i_name hw ?_ | refine i_tup' hw ?_ | refine i_lst' hw ?_) | refine e_and1 ?_ | refine e_and2 ?_ | refine e_or1 ?_ | refine e_or2 ?_ | refine o_none ?_ | refine o_some ?_ | refine p_nil ?_ | refine p_cons ?_ | refine a_nil ?_ | refine a_cons ?_ | refine t_and1 ?_ | refine t_and2 ?_ | refine t_or1 ?_ | refine t_or2 ?_ | refine k_bl ?_ | refine k_int ?_ | refine nd_tru ?_ | refine if_t ?_ | refine if_f ?_ | refine b_nil ?_ | refine b_cons ?_ | refine g_nil ?_ | refine g_cons ?_ | refine o_add ?_ | refine o_sub ?_ | refine o_neg ?_ | refine o_nt ?_ | refine c_lt ?_ | refine c_le ?_ | refine c_gt ?_ | refine c_ge ?_ | refine c_eqI ?_ | refine c_eqS ?_ | refine c_neS ?_ | refine c_neI ?_ | refine c_eqB ?_ | refine if_tc (by decide +kernel) ?_ | refine if_fc (by decide +kernel) ?_ | refine ne_c ?_ | refine isi_non_str ?_ | refine isi_non_tuple ?_ | refine isi_bl_str ?_ | refine isi_bl_tuple ?_ | refine isi_int_str ?_ | refine isi_int_tuple ?_ | refine isi_str_str ?_ | refine isi_str_tuple ?_ | refine isi_tup_str ?_ | refine isi_tup_tuple ?_ | refine isi_rol_str ?_ | refine isi_rol_tuple ?_ | refine isi_ref (by assumption) (by decide) ?_ | refine c_leB1 ?_ | refine c_leB2 ?_ | refine c_in2 ?_ | refine c_in3 ?_ | refine c_in4 ?_ | refine c_in5 ?_ | refine c_ni2 ?_ | refine c_ni4 ?_ | refine c_ni5 ?_ | refine c_eqT0 ?_ | refine c_eqT1 ?_ | refine l_tup ?_ | refine l_rol ?_ | refine l_ref (by assumption) ?_ | refine x_d0 (by assumption) ?_ | refine x_d1 (by assumption) ?_ | refine x_d2 (by assumption) ?_ | refine x_d3 (by assumption) ?_ | refine x_d0 tupd_same ?_ | refine x_d1 tupd_same ?_ | refine x_d2 tupd_same ?_ | refine x_d3 tupd_same ?_ | refine d_go4 ?_ | refine r_bl ?_ | refine r_bl4 (by assumption) ?_ | refine r_bl4 tupd_same ?_ | refine m_min ?_ | refine m_max ?_ | refine m_abs ?_ | refine x_t0 ?_ | refine x_t1 ?_ | refine x_t2 ?_) | (refine len_go ?_ ?_; · (simp; done)) | (refine o_mod ?_ ?_; · (first | decide | omega)) | (refine o_pow ⟨by decide, by decide, by decide⟩ ?_) | (refine o_mul (cmul ?_ ?_ ?_ ?_) ?_; (· omega); (· omega); (· omega); (· omega)) | (refine o_div (cdiv ?_ ?_) ?_; (· omega); (· omega)) | (refine if_tc ?_ ?_; · (first | rfl | (simp; done) | (simp; omega))) | (refine if_fc ?_ ?_; · (first | rfl | (simp; done) | (simp; omega))) | refine if_c (fun _ => ?_) (fun _ => ?_) | intro _ _)
          all_goals (refine bl_of h ?_; clear h; simp_all [isTaker, isOp, wordIn, sbeq])
        | b :: c :: d :: r, hk, h =>
          repeat' (first | (with_reducible first | refine u_whole (by first | assumption | exact kn_int | exact kn_str | exact kn_bl | exact kn_non | exact kn_tup | exact kn_rol) ?_ | refine u1 (by assumption) ?_ | (refine isE ?_; first | refine x_Lis_so_0 hw ?_ | refine x_Lis_so_1 hw ?_ | refine e_bf hw g_Lis_so_tuple b_tuple (by decide +kernel) (by decide +kernel) ?_ | refine e_bf hw g_Lis_so_str b_str (by decide +kernel) (by decide +kernel) ?_ | refine e_bf hw g_Lis_so_len b_len (by decide +kernel) (by decide +kernel) ?_ | refine w_Lis_so_Lis_within hw ?_ | refine w_Lis_so_Lis_test hw ?_ | refine e_none hw ?_ | refine e_bool hw ?_ | refine e_int hw ?_ | refine e_str hw ?_ | refine e_bin hw ?_ | refine e_una hw ?_ | refine e_and hw ?_ | refine e_or hw ?_ | refine e_ife hw ?_ | refine e_cmp hw ?_ | refine e_cmp2 hw ?_ | refine e_sub hw ?_ | refine e_sl hw ?_ | refine e_tup hw ?_ | refine e_lst hw ?_ | refine e_dct hw ?_ | refine e_isi hw g_Lis_so_isinstance g_Lis_so_tuple nm_tuple (by decide) (by decide +kernel) ?_ | refine e_isi hw g_Lis_so_isinstance g_Lis_so_str nm_str (by decide) (by decide +kernel) ?_) | (refine isT ?_; first | refine t_not hw ?_ | refine t_and hw ?_ | refine t_or hw ?_ | refine t_cmp hw ?_ | refine t_cmp2 hw ?_ | refine t_name hw ?_ | refine t_call hw ?_ | refine t_sub hw ?_) | (refine isS ?_; first | refine s_ret' hw ?_ | refine s_pass' hw ?_ | refine s_brk' hw ?_ | refine s_cnt' hw ?_ | refine s_exp' hw ?_ | refine s_if' hw ?_ | refine s_put' hw ?_ | refine s_for' hw ?_ (hc := cm_Lis_so) | refine y_Lis_so_0 hw ?_ | refine y_Lis_so_1 hw ?_) | (refine isG ?_; first | refine g_sb hw ?_ (hc := cm_Lis_so) | refine g_tp2 hw ?_ (hc := cm_Lis_so) | refine z_Lis_so_0 hw ?_ | refine z_Lis_so_1 hw ?_) | (refine isI ?_; first | refine i_name hw ?_ | refine i_tup' hw ?_ | refine i_lst' hw ?_) | refine e_and1 ?_ | refine e_and2 ?_ | refine e_or1 ?_ | refine e_or2 ?_ | refine o_none ?_ | refine o_some ?_ | refine p_nil ?_ | refine p_cons ?_ | refine a_nil ?_ | refine a_cons ?_ | refine t_and1 ?_ | refine t_and2 ?_ | refine t_or1 ?_ | refine t_or2 ?_ | refine k_bl ?_ | refine k_int ?_ | refine nd_tru ?_ | refine if_t ?_ | refine if_f ?_ | refine b_nil ?_ | refine b_cons ?_ | refine g_nil ?_ | refine g_cons ?_ | refine o_add ?_ | refine o_sub ?_ | refine o_neg ?_ | refine o_nt ?_ | refine c_lt ?_ | refine c_le ?_ | refine c_gt ?_ | refine c_ge ?_ | refine c_eqI ?_ | refine c_eqS ?_ | refine c_neS ?_ | refine c_neI ?_ | refine c_eqB ?_ | refine if_tc (by decide +kernel) ?_ | refine if_fc (by decide +kernel) ?_ | refine ne_c ?_ | refine isi_non_str ?_ | refine isi_non_tuple ?_ | refine isi_bl_str ?_ | refine isi_bl_tuple ?_ | refine isi_int_str ?_ | refine isi_int_tuple ?_ | refine isi_str_str ?_ | refine isi_str_tuple ?_ | refine isi_tup_str ?_ | refine isi_tup_tuple ?_ | refine isi_rol_str ?_ | refine isi_rol_tuple ?_ | refine isi_ref (by assumption) (by decide) ?_ | refine c_leB1 ?_ | refine c_leB2 ?_ | refine c_in2 ?_ | refine c_in3 ?_ | refine c_in4 ?_ | refine c_in5 ?_ | refine c_ni2 ?_ | refine c_ni4 ?_ | refine c_ni5 ?_ | refine c_eqT0 ?_ | refine c_eqT1 ?_ | refine l_tup ?_ | refine l_rol ?_ | refine l_ref (by assumption) ?_ | refine x_d0 (by assumption) ?_ | refine x_d1 (by assumption) ?_ | refine x_d2 (by assumption) ?_ | refine x_d3 (by assumption) ?_ | refine x_d0 tupd_same ?_ | refine x_d1 tupd_same ?_ | refine x_d2 tupd_same ?_ | refine x_d3 tupd_same ?_ | refine d_go4 ?_ | refine r_bl ?_ | refine r_bl4 (by assumption) ?_ | refine r_bl4 tupd_same ?_ | refine m_min ?_ | refine m_max ?_ | refine m_abs ?_ | refine x_t0 ?_ | refine x_t1 ?_ | refine x_t2 ?_) | (refine len_go ?_ ?_; · (simp; done)) | (refine o_mod ?_ ?_; · (first | decide | omega)) | (refine o_pow ⟨by decide, by decide, by decide⟩ ?_) | (refine o_mul (cmul ?_ ?_ ?_ ?_) ?_; (· omega); (· omega); (· omega); (· omega)) | (refine o_div (cdiv ?_ ?_) ?_; (· omega); (· omega)) | (refine if_tc ?_ ?_; · (first | rfl | (simp; done) | (simp; omega))) | (refine if_fc ?_ ?_; · (first | rfl | (simp; done) | (simp; omega))) | refine if_c (fun _ => ?_) (fun _ => ?_) | intro _ _)
          all_goals (refine bl_of h ?_; clear h; simp_all [isTaker, sbeq] <;> omega)
      all_goals
        repeat (first | (with_reducible first | (refine isE ?_; first | refine x_Lis_so_0 hw ?_ | refine x_Lis_so_1 hw ?_ | refine e_bf hw g_Lis_so_tuple b_tuple (by decide +kernel) (by decide +kernel) ?_ | refine e_bf hw g_Lis_so_str b_str (by decide +kernel) (by decide +kernel) ?_ | refine e_bf hw g_Lis_so_len b_len (by decide +kernel) (by decide +kernel) ?_ | refine w_Lis_so_Lis_within hw ?_ | refine w_Lis_so_Lis_test hw ?_ | refine e_none hw ?_ | refine e_bool hw ?_ | refine e_int hw ?_ | refine e_str hw ?_ | refine e_bin hw ?_ | refine e_una hw ?_ | refine e_and hw ?_ | refine e_or hw ?_ | refine e_ife hw ?_ | refine e_cmp hw ?_ | refine e_cmp2 hw ?_ | refine e_sub hw ?_ | refine e_sl hw ?_ | refine e_tup hw ?_ | refine e_lst hw ?_ | refine e_dct hw ?_ | refine e_isi hw g_Lis_so_isinstance g_Lis_so_tuple nm_tuple (by decide) (by decide +kernel) ?_ | refine e_isi hw g_Lis_so_isinstance g_Lis_so_str nm_str (by decide) (by decide +kernel) ?_) | (refine isT ?_; first | refine t_not hw ?_ | refine t_and hw ?_ | refine t_or hw ?_ | refine t_cmp hw ?_ | refine t_cmp2 hw ?_ | refine t_name hw ?_ | refine t_call hw ?_ | refine t_sub hw ?_) | (refine isS ?_; first | refine s_ret' hw ?_ | refine s_pass' hw ?_ | refine s_brk' hw ?_ | refine s_cnt' hw ?_ | refine s_exp' hw ?_ | refine s_if' hw ?_ | refine s_put' hw ?_ | refine s_for' hw ?_ (hc := cm_Lis_so) | refine y_Lis_so_0 hw ?_ | refine y_Lis_so_1 hw ?_) | (refine isG ?_; first | refine g_sb hw ?_ (hc := cm_Lis_so) | refine g_tp2 hw ?_ (hc := cm_Lis_so) | refine z_Lis_so_0 hw ?_ | refine z_Lis_so_1 hw ?_) | (refine isI ?_; first | refine i_name hw ?_ | refine i_tup' hw ?_ | refine i_lst' hw ?_) | refine e_and1 ?_ | refine e_and2 ?_ | refine e_or1 ?_ | refine e_or2 ?_ | refine o_none ?_ | refine o_some ?_ | refine p_nil ?_ | refine p_cons ?_ | refine a_nil ?_ | refine a_cons ?_ | refine t_and1 ?_ | refine t_and2 ?_ | refine t_or1 ?_ | refine t_or2 ?_ | refine k_bl ?_ | refine k_int ?_ | refine nd_tru ?_ | refine if_t ?_ | refine if_f ?_ | refine b_nil ?_ | refine b_cons ?_ | refine g_nil ?_ | refine g_cons ?_ | refine o_add ?_ | refine o_sub ?_ | refine o_neg ?_ | refine o_nt ?_ | refine c_lt ?_ | refine c_le ?_ | refine c_gt ?_ | refine c_ge ?_ | refine c_eqI ?_ | refine c_eqS ?_ | refine c_neS ?_ | refine c_neI ?_ | refine c_eqB ?_ | refine if_tc (by decide +kernel) ?_ | refine if_fc (by decide +kernel) ?_ | refine ne_c ?_ | refine isi_non_str ?_ | refine isi_non_tuple ?_ | refine isi_bl_str ?_ | refine isi_bl_tuple ?_ | refine isi_int_str ?_ | refine isi_int_tuple ?_ | refine isi_str_str ?_ | refine isi_str_tuple ?_ | refine isi_tup_str ?_ | refine isi_tup_tuple ?_ | refine isi_rol_str ?_ | refine isi_rol_tuple ?_ | refine isi_ref (by assumption) (by decide) ?_ | refine c_leB1 ?_ | refine c_leB2 ?_ | refine c_in2 ?_ | refine c_in3 ?_ | refine c_in4 ?_ | refine c_in5 ?_ | refine c_ni2 ?_ | refine c_ni4 ?_ | refine c_ni5 ?_ | refine c_eqT0 ?_ | refine c_eqT1 ?_ | refine l_tup ?_ | refine l_rol ?_ | refine l_ref (by assumption) ?_ | refine x_d0 (by assumption) ?_ | refine x_d1 (by assumption) ?_ | refine x_d2 (by assumption) ?_ | refine x_d3 (by assumption) ?_ | refine x_d0 tupd_same ?_ | refine x_d1 tupd_same ?_ | refine x_d2 tupd_same ?_ | refine x_d3 tupd_same ?_ | refine d_go4 ?_ | refine r_bl ?_ | refine r_bl4 (by assumption) ?_ | refine r_bl4 tupd_same ?_ | refine m_min ?_ | refine m_max ?_ | refine m_abs ?_ | refine x_t0 ?_ | refine x_t1 ?_ | refine x_t2 ?_) | (refine len_go ?_ ?_; · (simp; done)) | (refine o_mod ?_ ?_; · (first | decide | omega)) | (refine o_pow ⟨by decide, by decide, by decide⟩ ?_) | (refine o_mul (cmul ?_ ?_ ?_ ?_) ?_; (· omega); (· omega); (· omega); (· omega)) | (refine o_div (cdiv ?_ ?_) ?_; (· omega); (· omega)) | (refine if_tc ?_ ?_; · (first | rfl | (simp; done) | (simp; omega))) | (refine if_fc ?_ ?_; · (first | rfl | (simp; done) | (simp; omega))))
      all_goals exact h
  all_goals
    repeat' (first | (with_reducible first | (refine isE ?_; first | refine x_Lis_so_0 hw ?_ | refine x_Lis_so_1 hw ?_ | refine e_bf hw g_Lis_so_tuple b_tuple (by decide +kernel) (by decide +kernel) ?_ | refine e_bf hw g_Lis_so_str b_str (by decide +kernel) (by decide +kernel) ?_ | refine e_bf hw g_Lis_so_len b_len (by decide +kernel) (by decide +kernel) ?_ | refine w_Lis_so_Lis_within hw ?_ | refine w_Lis_so_Lis_test hw ?_ | refine e_none hw ?_ | refine e_bool hw ?_ | refine e_int hw ?_ | refine e_str hw ?_ | refine e_bin hw ?_ | refine e_una hw ?_ | refine e_and hw ?_ | refine e_or hw ?_ | refine e_ife hw ?_ | refine e_cmp hw ?_ | refine e_cmp2 hw ?_ | refine e_sub hw ?_ | refine e_sl hw ?_ | refine e_tup hw ?_ | refine e_lst hw ?_ | refine e_dct hw ?_ | refine e_isi hw g_Lis_so_isinstance g_Lis_so_tuple nm_tuple (by decide) (by decide +kernel) ?_ | refine e_isi hw g_Lis_so_isinstance g_Lis_so_str nm_str (by decide) (by decide +kernel) ?_) | (refine isT ?_; first | refine t_not hw ?_ | refine t_and hw ?_ | refine t_or hw ?_ | refine t_cmp hw ?_ | refine t_cmp2 hw ?_ | refine t_name hw ?_ | refine t_call hw ?_ | refine t_sub hw ?_) | (refine isS ?_; first | refine s_ret' hw ?_ | refine s_pass' hw ?_ | refine s_brk' hw ?_ | refine s_cnt' hw ?_ | refine s_exp' hw ?_ | refine s_if' hw ?_ | refine s_put' hw ?_ | refine s_for' hw ?_ (hc := cm_Lis_so) | refine y_Lis_so_0 hw ?_ | refine y_Lis_so_1 hw ?_) | (refine isG ?_; first | refine g_sb hw ?_ (hc := cm_Lis_so) | refine g_tp2 hw ?_ (hc := cm_Lis_so) | refine z_Lis_so_0 hw ?_ | refine z_Lis_so_1 hw ?_) | (refine isI ?_; first | refine i_name hw ?_ | refine i_tup' hw ?_ | refine i_lst' hw ?_) | refine e_and1 ?_ | refine e_and2 ?_ | refine e_or1 ?_ | refine e_or2 ?_ | refine o_none ?_ | refine o_some ?_ | refine p_nil ?_ | refine p_cons ?_ | refine a_nil ?_ | refine a_cons ?_ | refine t_and1 ?_ | refine t_and2 ?_ | refine t_or1 ?_ | refine t_or2 ?_ | refine k_bl ?_ | refine k_int ?_ | refine nd_tru ?_ | refine if_t ?_ | refine if_f ?_ | refine b_nil ?_ | refine b_cons ?_ | refine g_nil ?_ | refine g_cons ?_ | refine o_add ?_ | refine o_sub ?_ | refine o_neg ?_ | refine o_nt ?_ | refine c_lt ?_ | refine c_le ?_ | refine c_gt ?_ | refine c_ge ?_ | refine c_eqI ?_ | refine c_eqS ?_ | refine c_neS ?_ | refine c_neI ?_ | refine c_eqB ?_ | refine if_tc (by decide +kernel) ?_ | refine if_fc (by decide +kernel) ?_ | refine ne_c ?_ | refine isi_non_str ?_ | refine isi_non_tuple ?_ | refine isi_bl_str ?_ | refine isi_bl_tuple ?_ | refine isi_int_str ?_ | refine isi_int_tuple ?_ | refine isi_str_str ?_ | refine isi_str_tuple ?_ | refine isi_tup_str ?_ | refine isi_tup_tuple ?_ | refine isi_rol_str ?_ | refine isi_rol_tuple ?_ | refine isi_ref (by assumption) (by decide) ?_ | refine c_leB1 ?_ | refine c_leB2 ?_ | refine c_in2 ?_ | refine c_in3 ?_ | refine c_in4 ?_ | refine c_in5 ?_ | refine c_ni2 ?_ | refine c_ni4 ?_ | refine c_ni5 ?_ | refine c_eqT0 ?_ | refine c_eqT1 ?_ | refine l_tup ?_ | refine l_rol ?_ | refine l_ref (by assumption) ?_ | refine x_d0 (by assumption) ?_ | refine x_d1 (by assumption) ?_ | refine x_d2 (by assumption) ?_ | refine x_d3 (by assumption) ?_ | refine x_d0 tupd_same ?_ | refine x_d1 tupd_same ?_ | refine x_d2 tupd_same ?_ | refine x_d3 tupd_same ?_ | refine d_go4 ?_ | refine r_bl ?_ | refine r_bl4 (by assumption) ?_ | refine r_bl4 tupd_same ?_ | refine m_min ?_ | refine m_max ?_ | refine m_abs ?_ | refine x_t0 ?_ | refine x_t1 ?_ | refine x_t2 ?_) | (refine len_go ?_ ?_; · (simp; done)) | (refine o_mod ?_ ?_; · (first | decide | omega)) | (refine o_pow ⟨by decide, by decide, by decide⟩ ?_) | (refine o_mul (cmul ?_ ?_ ?_ ?_) ?_; (· omega); (· omega); (· omega); (· omega)) | (refine o_div (cdiv ?_ ?_) ?_; (· omega); (· omega)) | (refine if_tc ?_ ?_; · (first | rfl | (simp; done) | (simp; omega))) | (refine if_fc ?_ ?_; · (first | rfl | (simp; done) | (simp; omega))) | refine if_c (fun _ => ?_) (fun _ => ?_) | intro _ _)
  all_goals exact h
end K06


set_option Elab.async false
set_option linter.all false
set_option maxRecDepth 100000
set_option maxHeartbeats 4000000
set_option pp.maxSteps 300
namespace K06
open PySem PySem.Spec L2 TL
def sp_Lodd : TSp := fun vs H _ Q => ∃ d m, vs = [.ref d] ∧ Drw d m H ∧ 0 ≤ m ∧ m ≤ 10000000 ∧ ∀ (x : TV) (H' : TH), Td 2 H' x → Drw d (m + 1) H' → Fx d H H' → Q x H'
theorem u_odd {d : Addr} {m : Int} {H : TH} {E : TX} {Q : TQ} (hd : Drw d m H) (h1 : 0 ≤ m) (h2 : m ≤ 10000000) (h : ∀ (x : TV) (H' : TH), Td 2 H' x → Drw d (m + 1) H' → Fx d H H' → Q x H') : sp_Lodd [.ref d] H E Q := ⟨d, m, rfl, hd, h1, h2, h⟩
theorem td_ref {n : Nat} {H : TH} {a : Addr} {o : TL.TO} (e : H a = some o) (p : plainO o = true) : Td (n + 1) H (.ref a) := ⟨.ref e p, rfl⟩
def G_Lodd : GE := gOf [("_law_next", sp_Lnext)] [] []
theorem c_Lodd_Lnext : G_Lodd.fn "_law_next" = some (sp_Lnext) := by kernel_rfl
theorem w_Lodd_Lnext {w : Nat → WP} {n : Nat} {σ : TSt} {H : TH} {E : TX} {Q : TQ} {p pos : Pos} {es : List Expr} (hw : Steps w) (h : argsW ((w n).e S_Lodd G_Lodd) es σ H E fun xs H1 => sp_Lnext xs H1 E Q) (hi : noIsi "_law_next" es = true := by decide +kernel) (hs : noStars es = true := by decide +kernel) : (w (n + 1)).e S_Lodd G_Lodd (.Call (.Name "_law_next" p) es [] pos) σ H E Q := e_call hw g_Lodd_Lnext (by kernel_rfl) hi c_Lodd_Lnext hs h
theorem bd_Lodd {w : Nat → WP} (hw : Steps w) {v0 : TV} {H : TH} {E : TX} {Q : TQ} (h : sp_Lodd [v0] H E Q) : blockW ((w 40).s S_Lodd G_Lodd) (defBody st_Lodd) ⟨fun _ H => Q .non H, Q, fun _ _ => False, fun _ _ => False, fun e _ H => E e H⟩ [some v0, none] H := by
  obtain ⟨d, m, e, hd, m1, m2, h⟩ := h
  cases e
  refine b_cons ?_
  repeat (first | (with_reducible first | (refine isE ?_; first | refine x_Lodd_0 hw ?_ | refine x_Lodd_1 hw ?_ | refine w_Lodd_Lnext hw ?_ | refine e_none hw ?_ | refine e_bool hw ?_ | refine e_int hw ?_ | refine e_str hw ?_ | refine e_bin hw ?_ | refine e_una hw ?_ | refine e_and hw ?_ | refine e_or hw ?_ | refine e_ife hw ?_ | refine e_cmp hw ?_ | refine e_cmp2 hw ?_ | refine e_sub hw ?_ | refine e_sl hw ?_ | refine e_tup hw ?_ | refine e_lst hw ?_ | refine e_dct hw ?_) | (refine isT ?_; first | refine t_not hw ?_ | refine t_and hw ?_ | refine t_or hw ?_ | refine t_cmp hw ?_ | refine t_cmp2 hw ?_ | refine t_name hw ?_ | refine t_call hw ?_ | refine t_sub hw ?_) | (refine isS ?_; first | refine s_ret' hw ?_ | refine s_pass' hw ?_ | refine s_brk' hw ?_ | refine s_cnt' hw ?_ | refine s_exp' hw ?_ | refine s_if' hw ?_ | refine s_put' hw ?_ | refine s_for' hw ?_ (hc := cm_Lodd) | refine y_Lodd_0 hw ?_ | refine y_Lodd_1 hw ?_) | (refine isG ?_; first | refine g_sb hw ?_ (hc := cm_Lodd) | refine g_tp2 hw ?_ (hc := cm_Lodd) | refine z_Lodd_0 hw ?_ | refine z_Lodd_1 hw ?_) | (refine isI ?_; first | refine i_name hw ?_ | refine i_tup' hw ?_ | refine i_lst' hw ?_) | refine e_and1 ?_ | refine e_and2 ?_ | refine e_or1 ?_ | refine e_or2 ?_ | refine o_none ?_ | refine o_some ?_ | refine p_nil ?_ | refine p_cons ?_ | refine a_nil ?_ | refine a_cons ?_ | refine t_and1 ?_ | refine t_and2 ?_ | refine t_or1 ?_ | refine t_or2 ?_ | refine k_bl ?_ | refine k_int ?_ | refine nd_tru ?_ | refine if_t ?_ | refine if_f ?_ | refine b_nil ?_ | refine b_cons ?_ | refine g_nil ?_ | refine g_cons ?_ | refine o_add ?_ | refine o_sub ?_ | refine o_neg ?_ | refine o_nt ?_ | refine c_lt ?_ | refine c_le ?_ | refine c_gt ?_ | refine c_ge ?_ | refine c_eqI ?_ | refine c_eqS ?_ | refine c_neS ?_ | refine c_neI ?_ | refine c_eqB ?_ | refine if_tc (by decide +kernel) ?_ | refine if_fc (by decide +kernel) ?_ | refine ne_c ?_ | refine c_leB1 ?_ | refine c_leB2 ?_ | refine c_neB ?_ | refine c_eqBI ?_ | refine c_isN ?_ | refine c_isNN ?_ | refine c_in2 ?_ | refine c_in3 ?_ | refine c_in4 ?_ | refine c_in5 ?_ | refine c_ni2 ?_ | refine c_ni4 ?_ | refine c_ni5 ?_ | refine c_eqT0 ?_ | refine c_eqT1 ?_ | refine l_tup ?_ | refine l_rol ?_ | refine l_ref (by assumption) ?_ | refine x_d0 (by assumption) ?_ | refine x_d1 (by assumption) ?_ | refine x_d2 (by assumption) ?_ | refine x_d3 (by assumption) ?_ | refine x_d0 tupd_same ?_ | refine x_d1 tupd_same ?_ | refine x_d2 tupd_same ?_ | refine x_d3 tupd_same ?_ | refine d_go4 ?_ | refine r_bl ?_ | refine r_bl4 (by assumption) ?_ | refine r_bl4 tupd_same ?_ | refine m_min ?_ | refine m_max ?_ | refine m_abs ?_ | refine x_t0 ?_ | refine x_t1 ?_ | refine x_t2 ?_) | (refine len_go ?_ ?_; · (simp; done)) | (refine o_mod ?_ ?_; · (first | decide | omega)) | (refine o_pow ⟨by decide, by decide, by decide⟩ ?_) | (refine o_mul (cmul ?_ ?_ ?_ ?_) ?_; (· omega); (· omega); (· omega); (· omega)) | (refine o_div (cdiv ?_ ?_) ?_; (· omega); (· omega)) | (refine if_tc ?_ ?_; · (first | rfl | (simp; done) | (simp; omega))) | (refine if_fc ?_ ?_; · (first | rfl | (simp; done) | (simp; omega))))
  intro p1 n1; generalize hh1 : tupd _ p1 _ = H1; have e1 := tsame hh1; have f1 := frof hh1 n1; clear hh1
  repeat (first | (with_reducible first | (refine isE ?_; first | refine x_Lodd_0 hw ?_ | refine x_Lodd_1 hw ?_ | refine w_Lodd_Lnext hw ?_ | refine e_none hw ?_ | refine e_bool hw ?_ | refine e_int hw ?_ | refine e_str hw ?_ | refine e_bin hw ?_ | refine e_una hw ?_ | refine e_and hw ?_ | refine e_or hw ?_ | refine e_ife hw ?_ | refine e_cmp hw ?_ | refine e_cmp2 hw ?_ | refine e_sub hw ?_ | refine e_sl hw ?_ | refine e_tup hw ?_ | refine e_lst hw ?_ | refine e_dct hw ?_) | (refine isT ?_; first | refine t_not hw ?_ | refine t_and hw ?_ | refine t_or hw ?_ | refine t_cmp hw ?_ | refine t_cmp2 hw ?_ | refine t_name hw ?_ | refine t_call hw ?_ | refine t_sub hw ?_) | (refine isS ?_; first | refine s_ret' hw ?_ | refine s_pass' hw ?_ | refine s_brk' hw ?_ | refine s_cnt' hw ?_ | refine s_exp' hw ?_ | refine s_if' hw ?_ | refine s_put' hw ?_ | refine s_for' hw ?_ (hc := cm_Lodd) | refine y_Lodd_0 hw ?_ | refine y_Lodd_1 hw ?_) | (refine isG ?_; first | refine g_sb hw ?_ (hc := cm_Lodd) | refine g_tp2 hw ?_ (hc := cm_Lodd) | refine z_Lodd_0 hw ?_ | refine z_Lodd_1 hw ?_) | (refine isI ?_; first | refine i_name hw ?_ | refine i_tup' hw ?_ | refine i_lst' hw ?_) | refine e_and1 ?_ | refine e_and2 ?_ | refine e_or1 ?_ | refine e_or2 ?_ | refine o_none ?_ | refine o_some ?_ | refine p_nil ?_ | refine p_cons ?_ | refine a_nil ?_ | refine a_cons ?_ | refine t_and1 ?_ | refine t_and2 ?_ | refine t_or1 ?_ | refine t_or2 ?_ | refine k_bl ?_ | refine k_int ?_ | refine nd_tru ?_ | refine if_t ?_ | refine if_f ?_ | refine b_nil ?_ | refine b_cons ?_ | refine g_nil ?_ | refine g_cons ?_ | refine o_add ?_ | refine o_sub ?_ | refine o_neg ?_ | refine o_nt ?_ | refine c_lt ?_ | refine c_le ?_ | refine c_gt ?_ | refine c_ge ?_ | refine c_eqI ?_ | refine c_eqS ?_ | refine c_neS ?_ | refine c_neI ?_ | refine c_eqB ?_ | refine if_tc (by decide +kernel) ?_ | refine if_fc (by decide +kernel) ?_ | refine ne_c ?_ | refine c_leB1 ?_ | refine c_leB2 ?_ | refine c_neB ?_ | refine c_eqBI ?_ | refine c_isN ?_ | refine c_isNN ?_ | refine c_in2 ?_ | refine c_in3 ?_ | refine c_in4 ?_ | refine c_in5 ?_ | refine c_ni2 ?_ | refine c_ni4 ?_ | refine c_ni5 ?_ | refine c_eqT0 ?_ | refine c_eqT1 ?_ | refine l_tup ?_ | refine l_rol ?_ | refine l_ref (by assumption) ?_ | refine x_d0 (by assumption) ?_ | refine x_d1 (by assumption) ?_ | refine x_d2 (by assumption) ?_ | refine x_d3 (by assumption) ?_ | refine x_d0 tupd_same ?_ | refine x_d1 tupd_same ?_ | refine x_d2 tupd_same ?_ | refine x_d3 tupd_same ?_ | refine d_go4 ?_ | refine r_bl ?_ | refine r_bl4 (by assumption) ?_ | refine r_bl4 tupd_same ?_ | refine m_min ?_ | refine m_max ?_ | refine m_abs ?_ | refine x_t0 ?_ | refine x_t1 ?_ | refine x_t2 ?_) | (refine len_go ?_ ?_; · (simp; done)) | (refine o_mod ?_ ?_; · (first | decide | omega)) | (refine o_pow ⟨by decide, by decide, by decide⟩ ?_) | (refine o_mul (cmul ?_ ?_ ?_ ?_) ?_; (· omega); (· omega); (· omega); (· omega)) | (refine o_div (cdiv ?_ ?_) ?_; (· omega); (· omega)) | (refine if_tc ?_ ?_; · (first | rfl | (simp; done) | (simp; omega))) | (refine if_fc ?_ ?_; · (first | rfl | (simp; done) | (simp; omega))))
  intro p2 n2; generalize hh2 : tupd _ p2 _ = H2; have e2 := tsame hh2; have f2 := frof hh2 n2; clear hh2
  repeat (first | (with_reducible first | (refine isE ?_; first | refine x_Lodd_0 hw ?_ | refine x_Lodd_1 hw ?_ | refine w_Lodd_Lnext hw ?_ | refine e_none hw ?_ | refine e_bool hw ?_ | refine e_int hw ?_ | refine e_str hw ?_ | refine e_bin hw ?_ | refine e_una hw ?_ | refine e_and hw ?_ | refine e_or hw ?_ | refine e_ife hw ?_ | refine e_cmp hw ?_ | refine e_cmp2 hw ?_ | refine e_sub hw ?_ | refine e_sl hw ?_ | refine e_tup hw ?_ | refine e_lst hw ?_ | refine e_dct hw ?_) | (refine isT ?_; first | refine t_not hw ?_ | refine t_and hw ?_ | refine t_or hw ?_ | refine t_cmp hw ?_ | refine t_cmp2 hw ?_ | refine t_name hw ?_ | refine t_call hw ?_ | refine t_sub hw ?_) | (refine isS ?_; first | refine s_ret' hw ?_ | refine s_pass' hw ?_ | refine s_brk' hw ?_ | refine s_cnt' hw ?_ | refine s_exp' hw ?_ | refine s_if' hw ?_ | refine s_put' hw ?_ | refine s_for' hw ?_ (hc := cm_Lodd) | refine y_Lodd_0 hw ?_ | refine y_Lodd_1 hw ?_) | (refine isG ?_; first | refine g_sb hw ?_ (hc := cm_Lodd) | refine g_tp2 hw ?_ (hc := cm_Lodd) | refine z_Lodd_0 hw ?_ | refine z_Lodd_1 hw ?_) | (refine isI ?_; first | refine i_name hw ?_ | refine i_tup' hw ?_ | refine i_lst' hw ?_) | refine e_and1 ?_ | refine e_and2 ?_ | refine e_or1 ?_ | refine e_or2 ?_ | refine o_none ?_ | refine o_some ?_ | refine p_nil ?_ | refine p_cons ?_ | refine a_nil ?_ | refine a_cons ?_ | refine t_and1 ?_ | refine t_and2 ?_ | refine t_or1 ?_ | refine t_or2 ?_ | refine k_bl ?_ | refine k_int ?_ | refine nd_tru ?_ | refine if_t ?_ | refine if_f ?_ | refine b_nil ?_ | refine b_cons ?_ | refine g_nil ?_ | refine g_cons ?_ | refine o_add ?_ | refine o_sub ?_ | refine o_neg ?_ | refine o_nt ?_ | refine c_lt ?_ | refine c_le ?_ | refine c_gt ?_ | refine c_ge ?_ | refine c_eqI ?_ | refine c_eqS ?_ | refine c_neS ?_ | refine c_neI ?_ | refine c_eqB ?_ | refine if_tc (by decide +kernel) ?_ | refine if_fc (by decide +kernel) ?_ | refine ne_c ?_ | refine c_leB1 ?_ | refine c_leB2 ?_ | refine c_neB ?_ | refine c_eqBI ?_ | refine c_isN ?_ | refine c_isNN ?_ | refine c_in2 ?_ | refine c_in3 ?_ | refine c_in4 ?_ | refine c_in5 ?_ | refine c_ni2 ?_ | refine c_ni4 ?_ | refine c_ni5 ?_ | refine c_eqT0 ?_ | refine c_eqT1 ?_ | refine l_tup ?_ | refine l_rol ?_ | refine l_ref (by assumption) ?_ | refine x_d0 (by assumption) ?_ | refine x_d1 (by assumption) ?_ | refine x_d2 (by assumption) ?_ | refine x_d3 (by assumption) ?_ | refine x_d0 tupd_same ?_ | refine x_d1 tupd_same ?_ | refine x_d2 tupd_same ?_ | refine x_d3 tupd_same ?_ | refine d_go4 ?_ | refine r_bl ?_ | refine r_bl4 (by assumption) ?_ | refine r_bl4 tupd_same ?_ | refine m_min ?_ | refine m_max ?_ | refine m_abs ?_ | refine x_t0 ?_ | refine x_t1 ?_ | refine x_t2 ?_) | (refine len_go ?_ ?_; · (simp; done)) | (refine o_mod ?_ ?_; · (first | decide | omega)) | (refine o_pow ⟨by decide, by decide, by decide⟩ ?_) | (refine o_mul (cmul ?_ ?_ ?_ ?_) ?_; (· omega); (· omega); (· omega); (· omega)) | (refine o_div (cdiv ?_ ?_) ?_; (· omega); (· omega)) | (refine if_tc ?_ ?_; · (first | rfl | (simp; done) | (simp; omega))) | (refine if_fc ?_ ?_; · (first | rfl | (simp; done) | (simp; omega))))
  intro p3 n3; refine p_nil (d_go0 tupd_same ?_); generalize hh3 : tupd (tupd _ p3 _) p3 _ = H3; have e3 := tsame hh3; have f3 := frof2 hh3 n3; clear hh3
  repeat (first | (with_reducible first | (refine isE ?_; first | refine x_Lodd_0 hw ?_ | refine x_Lodd_1 hw ?_ | refine w_Lodd_Lnext hw ?_ | refine e_none hw ?_ | refine e_bool hw ?_ | refine e_int hw ?_ | refine e_str hw ?_ | refine e_bin hw ?_ | refine e_una hw ?_ | refine e_and hw ?_ | refine e_or hw ?_ | refine e_ife hw ?_ | refine e_cmp hw ?_ | refine e_cmp2 hw ?_ | refine e_sub hw ?_ | refine e_sl hw ?_ | refine e_tup hw ?_ | refine e_lst hw ?_ | refine e_dct hw ?_) | (refine isT ?_; first | refine t_not hw ?_ | refine t_and hw ?_ | refine t_or hw ?_ | refine t_cmp hw ?_ | refine t_cmp2 hw ?_ | refine t_name hw ?_ | refine t_call hw ?_ | refine t_sub hw ?_) | (refine isS ?_; first | refine s_ret' hw ?_ | refine s_pass' hw ?_ | refine s_brk' hw ?_ | refine s_cnt' hw ?_ | refine s_exp' hw ?_ | refine s_if' hw ?_ | refine s_put' hw ?_ | refine s_for' hw ?_ (hc := cm_Lodd) | refine y_Lodd_0 hw ?_ | refine y_Lodd_1 hw ?_) | (refine isG ?_; first | refine g_sb hw ?_ (hc := cm_Lodd) | refine g_tp2 hw ?_ (hc := cm_Lodd) | refine z_Lodd_0 hw ?_ | refine z_Lodd_1 hw ?_) | (refine isI ?_; first | refine i_name hw ?_ | refine i_tup' hw ?_ | refine i_lst' hw ?_) | refine e_and1 ?_ | refine e_and2 ?_ | refine e_or1 ?_ | refine e_or2 ?_ | refine o_none ?_ | refine o_some ?_ | refine p_nil ?_ | refine p_cons ?_ | refine a_nil ?_ | refine a_cons ?_ | refine t_and1 ?_ | refine t_and2 ?_ | refine t_or1 ?_ | refine t_or2 ?_ | refine k_bl ?_ | refine k_int ?_ | refine nd_tru ?_ | refine if_t ?_ | refine if_f ?_ | refine b_nil ?_ | refine b_cons ?_ | refine g_nil ?_ | refine g_cons ?_ | refine o_add ?_ | refine o_sub ?_ | refine o_neg ?_ | refine o_nt ?_ | refine c_lt ?_ | refine c_le ?_ | refine c_gt ?_ | refine c_ge ?_ | refine c_eqI ?_ | refine c_eqS ?_ | refine c_neS ?_ | refine c_neI ?_ | refine c_eqB ?_ | refine if_tc (by decide +kernel) ?_ | refine if_fc (by decide +kernel) ?_ | refine ne_c ?_ | refine c_leB1 ?_ | refine c_leB2 ?_ | refine c_neB ?_ | refine c_eqBI ?_ | refine c_isN ?_ | refine c_isNN ?_ | refine c_in2 ?_ | refine c_in3 ?_ | refine c_in4 ?_ | refine c_in5 ?_ | refine c_ni2 ?_ | refine c_ni4 ?_ | refine c_ni5 ?_ | refine c_eqT0 ?_ | refine c_eqT1 ?_ | refine l_tup ?_ | refine l_rol ?_ | refine l_ref (by assumption) ?_ | refine x_d0 (by assumption) ?_ | refine x_d1 (by assumption) ?_ | refine x_d2 (by assumption) ?_ | refine x_d3 (by assumption) ?_ | refine x_d0 tupd_same ?_ | refine x_d1 tupd_same ?_ | refine x_d2 tupd_same ?_ | refine x_d3 tupd_same ?_ | refine d_go4 ?_ | refine r_bl ?_ | refine r_bl4 (by assumption) ?_ | refine r_bl4 tupd_same ?_ | refine m_min ?_ | refine m_max ?_ | refine m_abs ?_ | refine x_t0 ?_ | refine x_t1 ?_ | refine x_t2 ?_) | (refine len_go ?_ ?_; · (simp; done)) | (refine o_mod ?_ ?_; · (first | decide | omega)) | (refine o_pow ⟨by decide, by decide, by decide⟩ ?_) | (refine o_mul (cmul ?_ ?_ ?_ ?_) ?_; (· omega); (· omega); (· omega); (· omega)) | (refine o_div (cdiv ?_ ?_) ?_; (· omega); (· omega)) | (refine if_tc ?_ ?_; · (first | rfl | (simp; done) | (simp; omega))) | (refine if_fc ?_ ?_; · (first | rfl | (simp; done) | (simp; omega))))
  intro p4 n4; generalize hh4 : tupd _ p4 _ = H4; have e4 := tsame hh4; have f4 := frof hh4 n4; clear hh4
  repeat (first | (with_reducible first | (refine isE ?_; first | refine x_Lodd_0 hw ?_ | refine x_Lodd_1 hw ?_ | refine w_Lodd_Lnext hw ?_ | refine e_none hw ?_ | refine e_bool hw ?_ | refine e_int hw ?_ | refine e_str hw ?_ | refine e_bin hw ?_ | refine e_una hw ?_ | refine e_and hw ?_ | refine e_or hw ?_ | refine e_ife hw ?_ | refine e_cmp hw ?_ | refine e_cmp2 hw ?_ | refine e_sub hw ?_ | refine e_sl hw ?_ | refine e_tup hw ?_ | refine e_lst hw ?_ | refine e_dct hw ?_) | (refine isT ?_; first | refine t_not hw ?_ | refine t_and hw ?_ | refine t_or hw ?_ | refine t_cmp hw ?_ | refine t_cmp2 hw ?_ | refine t_name hw ?_ | refine t_call hw ?_ | refine t_sub hw ?_) | (refine isS ?_; first | refine s_ret' hw ?_ | refine s_pass' hw ?_ | refine s_brk' hw ?_ | refine s_cnt' hw ?_ | refine s_exp' hw ?_ | refine s_if' hw ?_ | refine s_put' hw ?_ | refine s_for' hw ?_ (hc := cm_Lodd) | refine y_Lodd_0 hw ?_ | refine y_Lodd_1 hw ?_) | (refine isG ?_; first | refine g_sb hw ?_ (hc := cm_Lodd) | refine g_tp2 hw ?_ (hc := cm_Lodd) | refine z_Lodd_0 hw ?_ | refine z_Lodd_1 hw ?_) | (refine isI ?_; first | refine i_name hw ?_ | refine i_tup' hw ?_ | refine i_lst' hw ?_) | refine e_and1 ?_ | refine e_and2 ?_ | refine e_or1 ?_ | refine e_or2 ?_ | refine o_none ?_ | refine o_some ?_ | refine p_nil ?_ | refine p_cons ?_ | refine a_nil ?_ | refine a_cons ?_ | refine t_and1 ?_ | refine t_and2 ?_ | refine t_or1 ?_ | refine t_or2 ?_ | refine k_bl ?_ | refine k_int ?_ | refine nd_tru ?_ | refine if_t ?_ | refine if_f ?_ | refine b_nil ?_ | refine b_cons ?_ | refine g_nil ?_ | refine g_cons ?_ | refine o_add ?_ | refine o_sub ?_ | refine o_neg ?_ | refine o_nt ?_ | refine c_lt ?_ | refine c_le ?_ | refine c_gt ?_ | refine c_ge ?_ | refine c_eqI ?_ | refine c_eqS ?_ | refine c_neS ?_ | refine c_neI ?_ | refine c_eqB ?_ | refine if_tc (by decide +kernel) ?_ | refine if_fc (by decide +kernel) ?_ | refine ne_c ?_ | refine c_leB1 ?_ | refine c_leB2 ?_ | refine c_neB ?_ | refine c_eqBI ?_ | refine c_isN ?_ | refine c_isNN ?_ | refine c_in2 ?_ | refine c_in3 ?_ | refine c_in4 ?_ | refine c_in5 ?_ | refine c_ni2 ?_ | refine c_ni4 ?_ | refine c_ni5 ?_ | refine c_eqT0 ?_ | refine c_eqT1 ?_ | refine l_tup ?_ | refine l_rol ?_ | refine l_ref (by assumption) ?_ | refine x_d0 (by assumption) ?_ | refine x_d1 (by assumption) ?_ | refine x_d2 (by assumption) ?_ | refine x_d3 (by assumption) ?_ | refine x_d0 tupd_same ?_ | refine x_d1 tupd_same ?_ | refine x_d2 tupd_same ?_ | refine x_d3 tupd_same ?_ | refine d_go4 ?_ | refine r_bl ?_ | refine r_bl4 (by assumption) ?_ | refine r_bl4 tupd_same ?_ | refine m_min ?_ | refine m_max ?_ | refine m_abs ?_ | refine x_t0 ?_ | refine x_t1 ?_ | refine x_t2 ?_) | (refine len_go ?_ ?_; · (simp; done)) | (refine o_mod ?_ ?_; · (first | decide | omega)) | (refine o_pow ⟨by decide, by decide, by decide⟩ ?_) | (refine o_mul (cmul ?_ ?_ ?_ ?_) ?_; (· omega); (· omega); (· omega); (· omega)) | (refine o_div (cdiv ?_ ?_) ?_; (· omega); (· omega)) | (refine if_tc ?_ ?_; · (first | rfl | (simp; done) | (simp; omega))) | (refine if_fc ?_ ?_; · (first | rfl | (simp; done) | (simp; omega))))
  intro p5 n5; generalize hh5 : tupd _ p5 _ = H5; have e5 := tsame hh5; have f5 := frof hh5 n5; clear hh5
  repeat (first | (with_reducible first | (refine isE ?_; first | refine x_Lodd_0 hw ?_ | refine x_Lodd_1 hw ?_ | refine w_Lodd_Lnext hw ?_ | refine e_none hw ?_ | refine e_bool hw ?_ | refine e_int hw ?_ | refine e_str hw ?_ | refine e_bin hw ?_ | refine e_una hw ?_ | refine e_and hw ?_ | refine e_or hw ?_ | refine e_ife hw ?_ | refine e_cmp hw ?_ | refine e_cmp2 hw ?_ | refine e_sub hw ?_ | refine e_sl hw ?_ | refine e_tup hw ?_ | refine e_lst hw ?_ | refine e_dct hw ?_) | (refine isT ?_; first | refine t_not hw ?_ | refine t_and hw ?_ | refine t_or hw ?_ | refine t_cmp hw ?_ | refine t_cmp2 hw ?_ | refine t_name hw ?_ | refine t_call hw ?_ | refine t_sub hw ?_) | (refine isS ?_; first | refine s_ret' hw ?_ | refine s_pass' hw ?_ | refine s_brk' hw ?_ | refine s_cnt' hw ?_ | refine s_exp' hw ?_ | refine s_if' hw ?_ | refine s_put' hw ?_ | refine s_for' hw ?_ (hc := cm_Lodd) | refine y_Lodd_0 hw ?_ | refine y_Lodd_1 hw ?_) | (refine isG ?_; first | refine g_sb hw ?_ (hc := cm_Lodd) | refine g_tp2 hw ?_ (hc := cm_Lodd) | refine z_Lodd_0 hw ?_ | refine z_Lodd_1 hw ?_) | (refine isI ?_; first | refine i_name hw ?_ | refine i_tup' hw ?_ | refine i_lst' hw ?_) | refine e_and1 ?_ | refine e_and2 ?_ | refine e_or1 ?_ | refine e_or2 ?_ | refine o_none ?_ | refine o_some ?_ | refine p_nil ?_ | refine p_cons ?_ | refine a_nil ?_ | refine a_cons ?_ | refine t_and1 ?_ | refine t_and2 ?_ | refine t_or1 ?_ | refine t_or2 ?_ | refine k_bl ?_ | refine k_int ?_ | refine nd_tru ?_ | refine if_t ?_ | refine if_f ?_ | refine b_nil ?_ | refine b_cons ?_ | refine g_nil ?_ | refine g_cons ?_ | refine o_add ?_ | refine o_sub ?_ | refine o_neg ?_ | refine o_nt ?_ | refine c_lt ?_ | refine c_le ?_ | refine c_gt ?_ | refine c_ge ?_ | refine c_eqI ?_ | refine c_eqS ?_ | refine c_neS ?_ | refine c_neI ?_ | refine c_eqB ?_ | refine if_tc (by decide +kernel) ?_ | refine if_fc (by decide +kernel) ?_ | refine ne_c ?_ | refine c_leB1 ?_ | refine c_leB2 ?_ | refine c_neB ?_ | refine c_eqBI ?_ | refine c_isN ?_ | refine c_isNN ?_ | refine c_in2 ?_ | refine c_in3 ?_ | refine c_in4 ?_ | refine c_in5 ?_ | refine c_ni2 ?_ | refine c_ni4 ?_ | refine c_ni5 ?_ | refine c_eqT0 ?_ | refine c_eqT1 ?_ | refine l_tup ?_ | refine l_rol ?_ | refine l_ref (by assumption) ?_ | refine x_d0 (by assumption) ?_ | refine x_d1 (by assumption) ?_ | refine x_d2 (by assumption) ?_ | refine x_d3 (by assumption) ?_ | refine x_d0 tupd_same ?_ | refine x_d1 tupd_same ?_ | refine x_d2 tupd_same ?_ | refine x_d3 tupd_same ?_ | refine d_go4 ?_ | refine r_bl ?_ | refine r_bl4 (by assumption) ?_ | refine r_bl4 tupd_same ?_ | refine m_min ?_ | refine m_max ?_ | refine m_abs ?_ | refine x_t0 ?_ | refine x_t1 ?_ | refine x_t2 ?_) | (refine len_go ?_ ?_; · (simp; done)) | (refine o_mod ?_ ?_; · (first | decide | omega)) | (refine o_pow ⟨by decide, by decide, by decide⟩ ?_) | (refine o_mul (cmul ?_ ?_ ?_ ?_) ?_; (· omega); (· omega); (· omega); (· omega)) | (refine o_div (cdiv ?_ ?_) ?_; (· omega); (· omega)) | (refine if_tc ?_ ?_; · (first | rfl | (simp; done) | (simp; omega))) | (refine if_fc ?_ ?_; · (first | rfl | (simp; done) | (simp; omega))))
  intro p6 n6; generalize hh6 : tupd _ p6 _ = H6; have e6 := tsame hh6; have f6 := frof hh6 n6; clear hh6
  have f36 := f3.trans (f4.trans (f5.trans f6))
  refine o_ladd (f36 _ _ e2) e6 (by simp) ?_
  intro p7 n7; generalize hh7 : tupd _ p7 _ = H7; have e7 := tsame hh7; have f7 := frof hh7 n7; clear hh7
  repeat (first | (with_reducible first | (refine isE ?_; first | refine x_Lodd_0 hw ?_ | refine x_Lodd_1 hw ?_ | refine w_Lodd_Lnext hw ?_ | refine e_none hw ?_ | refine e_bool hw ?_ | refine e_int hw ?_ | refine e_str hw ?_ | refine e_bin hw ?_ | refine e_una hw ?_ | refine e_and hw ?_ | refine e_or hw ?_ | refine e_ife hw ?_ | refine e_cmp hw ?_ | refine e_cmp2 hw ?_ | refine e_sub hw ?_ | refine e_sl hw ?_ | refine e_tup hw ?_ | refine e_lst hw ?_ | refine e_dct hw ?_) | (refine isT ?_; first | refine t_not hw ?_ | refine t_and hw ?_ | refine t_or hw ?_ | refine t_cmp hw ?_ | refine t_cmp2 hw ?_ | refine t_name hw ?_ | refine t_call hw ?_ | refine t_sub hw ?_) | (refine isS ?_; first | refine s_ret' hw ?_ | refine s_pass' hw ?_ | refine s_brk' hw ?_ | refine s_cnt' hw ?_ | refine s_exp' hw ?_ | refine s_if' hw ?_ | refine s_put' hw ?_ | refine s_for' hw ?_ (hc := cm_Lodd) | refine y_Lodd_0 hw ?_ | refine y_Lodd_1 hw ?_) | (refine isG ?_; first | refine g_sb hw ?_ (hc := cm_Lodd) | refine g_tp2 hw ?_ (hc := cm_Lodd) | refine z_Lodd_0 hw ?_ | refine z_Lodd_1 hw ?_) | (refine isI ?_; first | refine i_name hw ?_ | refine i_tup' hw ?_ | refine i_lst' hw ?_) | refine e_and1 ?_ | refine e_and2 ?_ | refine e_or1 ?_ | refine e_or2 ?_ | refine o_none ?_ | refine o_some ?_ | refine p_nil ?_ | refine p_cons ?_ | refine a_nil ?_ | refine a_cons ?_ | refine t_and1 ?_ | refine t_and2 ?_ | refine t_or1 ?_ | refine t_or2 ?_ | refine k_bl ?_ | refine k_int ?_ | refine nd_tru ?_ | refine if_t ?_ | refine if_f ?_ | refine b_nil ?_ | refine b_cons ?_ | refine g_nil ?_ | refine g_cons ?_ | refine o_add ?_ | refine o_sub ?_ | refine o_neg ?_ | refine o_nt ?_ | refine c_lt ?_ | refine c_le ?_ | refine c_gt ?_ | refine c_ge ?_ | refine c_eqI ?_ | refine c_eqS ?_ | refine c_neS ?_ | refine c_neI ?_ | refine c_eqB ?_ | refine if_tc (by decide +kernel) ?_ | refine if_fc (by decide +kernel) ?_ | refine ne_c ?_ | refine c_leB1 ?_ | refine c_leB2 ?_ | refine c_neB ?_ | refine c_eqBI ?_ | refine c_isN ?_ | refine c_isNN ?_ | refine c_in2 ?_ | refine c_in3 ?_ | refine c_in4 ?_ | refine c_in5 ?_ | refine c_ni2 ?_ | refine c_ni4 ?_ | refine c_ni5 ?_ | refine c_eqT0 ?_ | refine c_eqT1 ?_ | refine l_tup ?_ | refine l_rol ?_ | refine l_ref (by assumption) ?_ | refine x_d0 (by assumption) ?_ | refine x_d1 (by assumption) ?_ | refine x_d2 (by assumption) ?_ | refine x_d3 (by assumption) ?_ | refine x_d0 tupd_same ?_ | refine x_d1 tupd_same ?_ | refine x_d2 tupd_same ?_ | refine x_d3 tupd_same ?_ | refine d_go4 ?_ | refine r_bl ?_ | refine r_bl4 (by assumption) ?_ | refine r_bl4 tupd_same ?_ | refine m_min ?_ | refine m_max ?_ | refine m_abs ?_ | refine x_t0 ?_ | refine x_t1 ?_ | refine x_t2 ?_) | (refine len_go ?_ ?_; · (simp; done)) | (refine o_mod ?_ ?_; · (first | decide | omega)) | (refine o_pow ⟨by decide, by decide, by decide⟩ ?_) | (refine o_mul (cmul ?_ ?_ ?_ ?_) ?_; (· omega); (· omega); (· omega); (· omega)) | (refine o_div (cdiv ?_ ?_) ?_; (· omega); (· omega)) | (refine if_tc ?_ ?_; · (first | rfl | (simp; done) | (simp; omega))) | (refine if_fc ?_ ?_; · (first | rfl | (simp; done) | (simp; omega))))
  have f17 := (f1.trans f2).trans (f36.trans f7)
  have hd7 := hd.fr f17
  refine u_next hd7 (by omega) (by omega) (by omega) (by omega) fun r H' q1 q2 hd' f => ?_
  repeat (first | (with_reducible first | (refine isE ?_; first | refine x_Lodd_0 hw ?_ | refine x_Lodd_1 hw ?_ | refine w_Lodd_Lnext hw ?_ | refine e_none hw ?_ | refine e_bool hw ?_ | refine e_int hw ?_ | refine e_str hw ?_ | refine e_bin hw ?_ | refine e_una hw ?_ | refine e_and hw ?_ | refine e_or hw ?_ | refine e_ife hw ?_ | refine e_cmp hw ?_ | refine e_cmp2 hw ?_ | refine e_sub hw ?_ | refine e_sl hw ?_ | refine e_tup hw ?_ | refine e_lst hw ?_ | refine e_dct hw ?_) | (refine isT ?_; first | refine t_not hw ?_ | refine t_and hw ?_ | refine t_or hw ?_ | refine t_cmp hw ?_ | refine t_cmp2 hw ?_ | refine t_name hw ?_ | refine t_call hw ?_ | refine t_sub hw ?_) | (refine isS ?_; first | refine s_ret' hw ?_ | refine s_pass' hw ?_ | refine s_brk' hw ?_ | refine s_cnt' hw ?_ | refine s_exp' hw ?_ | refine s_if' hw ?_ | refine s_put' hw ?_ | refine s_for' hw ?_ (hc := cm_Lodd) | refine y_Lodd_0 hw ?_ | refine y_Lodd_1 hw ?_) | (refine isG ?_; first | refine g_sb hw ?_ (hc := cm_Lodd) | refine g_tp2 hw ?_ (hc := cm_Lodd) | refine z_Lodd_0 hw ?_ | refine z_Lodd_1 hw ?_) | (refine isI ?_; first | refine i_name hw ?_ | refine i_tup' hw ?_ | refine i_lst' hw ?_) | refine e_and1 ?_ | refine e_and2 ?_ | refine e_or1 ?_ | refine e_or2 ?_ | refine o_none ?_ | refine o_some ?_ | refine p_nil ?_ | refine p_cons ?_ | refine a_nil ?_ | refine a_cons ?_ | refine t_and1 ?_ | refine t_and2 ?_ | refine t_or1 ?_ | refine t_or2 ?_ | refine k_bl ?_ | refine k_int ?_ | refine nd_tru ?_ | refine if_t ?_ | refine if_f ?_ | refine b_nil ?_ | refine b_cons ?_ | refine g_nil ?_ | refine g_cons ?_ | refine o_add ?_ | refine o_sub ?_ | refine o_neg ?_ | refine o_nt ?_ | refine c_lt ?_ | refine c_le ?_ | refine c_gt ?_ | refine c_ge ?_ | refine c_eqI ?_ | refine c_eqS ?_ | refine c_neS ?_ | refine c_neI ?_ | refine c_eqB ?_ | refine if_tc (by decide +kernel) ?_ | refine if_fc (by decide +kernel) ?_ | refine ne_c ?_ | refine c_leB1 ?_ | refine c_leB2 ?_ | refine c_neB ?_ | refine c_eqBI ?_ | refine c_isN ?_ | refine c_isNN ?_ | refine c_in2 ?_ | refine c_in3 ?_ | refine c_in4 ?_ | refine c_in5 ?_ | refine c_ni2 ?_ | refine c_ni4 ?_ | refine c_ni5 ?_ | refine c_eqT0 ?_ | refine c_eqT1 ?_ | refine l_tup ?_ | refine l_rol ?_ | refine l_ref (by assumption) ?_ | refine x_d0 (by assumption) ?_ | refine x_d1 (by assumption) ?_ | refine x_d2 (by assumption) ?_ | refine x_d3 (by assumption) ?_ | refine x_d0 tupd_same ?_ | refine x_d1 tupd_same ?_ | refine x_d2 tupd_same ?_ | refine x_d3 tupd_same ?_ | refine d_go4 ?_ | refine r_bl ?_ | refine r_bl4 (by assumption) ?_ | refine r_bl4 tupd_same ?_ | refine m_min ?_ | refine m_max ?_ | refine m_abs ?_ | refine x_t0 ?_ | refine x_t1 ?_ | refine x_t2 ?_) | (refine len_go ?_ ?_; · (simp; done)) | (refine o_mod ?_ ?_; · (first | decide | omega)) | (refine o_pow ⟨by decide, by decide, by decide⟩ ?_) | (refine o_mul (cmul ?_ ?_ ?_ ?_) ?_; (· omega); (· omega); (· omega); (· omega)) | (refine o_div (cdiv ?_ ?_) ?_; (· omega); (· omega)) | (refine if_tc ?_ ?_; · (first | rfl | (simp; done) | (simp; omega))) | (refine if_fc ?_ ?_; · (first | rfl | (simp; done) | (simp; omega))))
  have n77 := drw_ne (hd.fr ((f1.trans f2).trans f36)) n7
  refine x_at (f p7 _ n77 e7) q1 (by simpa using q2) fun v hv => ?_
  refine h v H' ?_ hd' (f17.fx.trans f)
  refine Td.fx (H := H7) ?_ f hd'
  have a1 := (f2.trans (f36.trans f7)) _ _ e1
  have a3 := (f4.trans (f5.trans (f6.trans f7))) _ _ e3
  have a4 := (f5.trans (f6.trans f7)) _ _ e4
  have a5 := (f6.trans f7) _ _ e5
  have go : ∀ y ∈ ([.non, .bl true, .bl false, .int 0, .int (-1), .int 2000, .int 2001, .int 1000, .int 1001, .int (-1000), .int (-1001), .int (10 ^ Int.toNat 30), .str "", .str "x", .str "add", .str "all", .tup [], .ref p1] ++
      [.ref p3, .tup [.str "even"], .tup [.str "over"], .tup [.str "under", .int 5], .tup [.str "even", .int 1], .ref p4, .tup [.int 1], .ref p5] : List TV), Td 2 H7 y := by
    simp only [List.cons_append, List.nil_append]
    repeat (first | exact al_nil | refine al_cons (by first | exact td_ref (by assumption) rfl | exact td_no (by kernel_rfl) (by kernel_rfl)) ?_)
  exact go v hv
/-! a taker, or nearly such -/
def sp_Lmade : TSp := fun vs H _ Q => ∃ d m, vs = [.ref d] ∧ Drw d m H ∧ 0 ≤ m ∧ m ≤ 1000000 ∧ ∀ (x : TV) (H' : TH), Td 3 H' x → Drw d (m + 20) H' → Fx d H H' → Q x H'
def G_Lmade : GE := gOf [("_law_next", sp_Lnext), ("_law_odd", sp_Lodd)] [] []
theorem c_Lmade_Lnext : G_Lmade.fn "_law_next" = some (sp_Lnext) := by kernel_rfl
theorem c_Lmade_Lodd : G_Lmade.fn "_law_odd" = some (sp_Lodd) := by kernel_rfl
theorem w_Lmade_Lnext {w : Nat → WP} {n : Nat} {σ : TSt} {H : TH} {E : TX} {Q : TQ} {p pos : Pos} {es : List Expr} (hw : Steps w) (h : argsW ((w n).e S_Lmade G_Lmade) es σ H E fun xs H1 => sp_Lnext xs H1 E Q) (hi : noIsi "_law_next" es = true := by decide +kernel) (hs : noStars es = true := by decide +kernel) : (w (n + 1)).e S_Lmade G_Lmade (.Call (.Name "_law_next" p) es [] pos) σ H E Q := e_call hw g_Lmade_Lnext (by kernel_rfl) hi c_Lmade_Lnext hs h
theorem w_Lmade_Lodd {w : Nat → WP} {n : Nat} {σ : TSt} {H : TH} {E : TX} {Q : TQ} {p pos : Pos} {es : List Expr} (hw : Steps w) (h : argsW ((w n).e S_Lmade G_Lmade) es σ H E fun xs H1 => sp_Lodd xs H1 E Q) (hi : noIsi "_law_odd" es = true := by decide +kernel) (hs : noStars es = true := by decide +kernel) : (w (n + 1)).e S_Lmade G_Lmade (.Call (.Name "_law_odd" p) es [] pos) σ H E Q := e_call hw g_Lmade_Lodd (by kernel_rfl) hi c_Lmade_Lodd hs h
theorem li_tup {H : TH} {Q : TQ} {l : List TV} (h : ∀ p, H p = none → Q (.ref p) (tupd H p (.lst l))) : bfDo .list [.tup l] H Q := ⟨(true, l), rfl, h⟩
theorem td2 {H : TH} {l : List TV} (hl : ∀ y ∈ l, noRef y = true ∧ dpB 2 y = true) : ∀ y ∈ l, Td 2 H y := fun y m => td_no (hl y m).1 (hl y m).2
theorem tl_Lmade {w : Nat → WP} (hw : Steps w) {d : Addr} {m : Int} {l : List TV} {H : TH} {E : TX} {Q : TQ} {o1 o2 o3 o4 o6 o7 : Option TV} (hl : ∀ y ∈ l, noRef y = true ∧ dpB 2 y = true) (l1 : 1 ≤ l.length) (l2 : l.length ≤ 3) (hd : Drw d m H) (m1 : 0 ≤ m) (m2 : m ≤ 2000000) (h : ∀ (x : TV) (H' : TH), Td 3 H' x → Drw d (m + 8) H' → Fx d H H' → Q x H') :
    blockW ((w 40).s S_Lmade G_Lmade) ((defBody st_Lmade).drop 5) ⟨fun _ H => Q .non H, Q, fun _ _ => False, fun _ _ => False, fun e _ H => E e H⟩ [some (.ref d), o1, o2, o3, o4, some (.tup l), o6, o7] H := by
  refine b_cons ?_
  have len1 : (0 : Int) < (l.length : Nat) := by omega
  have len2 : ((l.length : Nat) : Int) ≤ 1000000000 := by omega
  repeat (first | (with_reducible first | (refine isE ?_; first | refine x_Lmade_0 hw ?_ | refine x_Lmade_1 hw ?_ | refine x_Lmade_2 hw ?_ | refine x_Lmade_3 hw ?_ | refine x_Lmade_4 hw ?_ | refine x_Lmade_5 hw ?_ | refine x_Lmade_6 hw ?_ | refine x_Lmade_7 hw ?_ | refine w_Lmade_Lnext hw ?_ | refine e_bf hw g_Lmade_len b_len (by decide +kernel) (by decide +kernel) ?_ | refine w_Lmade_Lodd hw ?_ | refine e_bf hw g_Lmade_list b_list (by decide +kernel) (by decide +kernel) ?_ | refine e_none hw ?_ | refine e_bool hw ?_ | refine e_int hw ?_ | refine e_str hw ?_ | refine e_bin hw ?_ | refine e_una hw ?_ | refine e_and hw ?_ | refine e_or hw ?_ | refine e_ife hw ?_ | refine e_cmp hw ?_ | refine e_cmp2 hw ?_ | refine e_sub hw ?_ | refine e_sl hw ?_ | refine e_tup hw ?_ | refine e_lst hw ?_ | refine e_dct hw ?_) | (refine isT ?_; first | refine t_not hw ?_ | refine t_and hw ?_ | refine t_or hw ?_ | refine t_cmp hw ?_ | refine t_cmp2 hw ?_ | refine t_name hw ?_ | refine t_call hw ?_ | refine t_sub hw ?_) | (refine isS ?_; first | refine par_Lmade_6_7 hw ?_ | refine s_ret' hw ?_ | refine s_pass' hw ?_ | refine s_brk' hw ?_ | refine s_cnt' hw ?_ | refine s_exp' hw ?_ | refine s_if' hw ?_ | refine s_put' hw ?_ | refine s_for' hw ?_ (hc := cm_Lmade) | refine y_Lmade_0 hw ?_ | refine y_Lmade_1 hw ?_ | refine y_Lmade_2 hw ?_ | refine y_Lmade_3 hw ?_ | refine y_Lmade_4 hw ?_ | refine y_Lmade_5 hw ?_ | refine y_Lmade_6 hw ?_ | refine y_Lmade_7 hw ?_ | refine s_unp' hw (by kernel_rfl) (by decide +kernel) ?_) | (refine isG ?_; first | refine g_sb hw ?_ (hc := cm_Lmade) | refine g_tp2 hw ?_ (hc := cm_Lmade) | refine z_Lmade_0 hw ?_ | refine z_Lmade_1 hw ?_ | refine z_Lmade_2 hw ?_ | refine z_Lmade_3 hw ?_ | refine z_Lmade_4 hw ?_ | refine z_Lmade_5 hw ?_ | refine z_Lmade_6 hw ?_ | refine z_Lmade_7 hw ?_) | (refine isI ?_; first | refine i_name hw ?_ | refine i_tup' hw ?_ | refine i_lst' hw ?_) | refine e_and1 ?_ | refine e_and2 ?_ | refine e_or1 ?_ | refine e_or2 ?_ | refine o_none ?_ | refine o_some ?_ | refine p_nil ?_ | refine p_cons ?_ | refine a_nil ?_ | refine a_cons ?_ | refine t_and1 ?_ | refine t_and2 ?_ | refine t_or1 ?_ | refine t_or2 ?_ | refine k_bl ?_ | refine k_int ?_ | refine nd_tru ?_ | refine if_t ?_ | refine if_f ?_ | refine b_nil ?_ | refine b_cons ?_ | refine g_nil ?_ | refine g_cons ?_ | refine o_add ?_ | refine o_sub ?_ | refine o_neg ?_ | refine o_nt ?_ | refine c_lt ?_ | refine c_le ?_ | refine c_gt ?_ | refine c_ge ?_ | refine c_eqI ?_ | refine c_eqS ?_ | refine c_neS ?_ | refine c_neI ?_ | refine c_eqB ?_ | refine if_tc (by decide +kernel) ?_ | refine if_fc (by decide +kernel) ?_ | refine ne_c ?_ | refine c_leB1 ?_ | refine c_leB2 ?_ | refine c_neB ?_ | refine c_eqBI ?_ | refine c_isN ?_ | refine c_isNN ?_ | refine c_in2 ?_ | refine c_in3 ?_ | refine c_in4 ?_ | refine c_in5 ?_ | refine c_ni2 ?_ | refine c_ni4 ?_ | refine c_ni5 ?_ | refine c_eqT0 ?_ | refine c_eqT1 ?_ | refine l_tup ?_ | refine l_rol ?_ | refine l_ref (by assumption) ?_ | refine x_d0 (by assumption) ?_ | refine x_d1 (by assumption) ?_ | refine x_d2 (by assumption) ?_ | refine x_d3 (by assumption) ?_ | refine x_d0 tupd_same ?_ | refine x_d1 tupd_same ?_ | refine x_d2 tupd_same ?_ | refine x_d3 tupd_same ?_ | refine d_go4 ?_ | refine r_bl ?_ | refine r_bl4 (by assumption) ?_ | refine r_bl4 tupd_same ?_ | refine m_min ?_ | refine m_max ?_ | refine m_abs ?_ | refine x_t0 ?_ | refine x_t1 ?_ | refine x_t2 ?_) | (refine len_go ?_ ?_; · (simp; done)) | (refine o_mod ?_ ?_; · (first | decide | omega)) | (refine o_pow ⟨by decide, by decide, by decide⟩ ?_) | (refine o_mul (cmul ?_ ?_ ?_ ?_) ?_; (· omega); (· omega); (· omega); (· omega)) | (refine o_div (cdiv ?_ ?_) ?_; (· omega); (· omega)) | (refine if_tc ?_ ?_; · (first | rfl | (simp; done) | (simp; omega))) | (refine if_fc ?_ ?_; · (first | rfl | (simp; done) | (simp; omega))))
  refine u_next hd (by omega) (by omega) len1 len2 fun a H1 p1 q1 hd1 f1 => ?_
  repeat (first | (with_reducible first | (refine isE ?_; first | refine x_Lmade_0 hw ?_ | refine x_Lmade_1 hw ?_ | refine x_Lmade_2 hw ?_ | refine x_Lmade_3 hw ?_ | refine x_Lmade_4 hw ?_ | refine x_Lmade_5 hw ?_ | refine x_Lmade_6 hw ?_ | refine x_Lmade_7 hw ?_ | refine w_Lmade_Lnext hw ?_ | refine e_bf hw g_Lmade_len b_len (by decide +kernel) (by decide +kernel) ?_ | refine w_Lmade_Lodd hw ?_ | refine e_bf hw g_Lmade_list b_list (by decide +kernel) (by decide +kernel) ?_ | refine e_none hw ?_ | refine e_bool hw ?_ | refine e_int hw ?_ | refine e_str hw ?_ | refine e_bin hw ?_ | refine e_una hw ?_ | refine e_and hw ?_ | refine e_or hw ?_ | refine e_ife hw ?_ | refine e_cmp hw ?_ | refine e_cmp2 hw ?_ | refine e_sub hw ?_ | refine e_sl hw ?_ | refine e_tup hw ?_ | refine e_lst hw ?_ | refine e_dct hw ?_) | (refine isT ?_; first | refine t_not hw ?_ | refine t_and hw ?_ | refine t_or hw ?_ | refine t_cmp hw ?_ | refine t_cmp2 hw ?_ | refine t_name hw ?_ | refine t_call hw ?_ | refine t_sub hw ?_) | (refine isS ?_; first | refine par_Lmade_6_7 hw ?_ | refine s_ret' hw ?_ | refine s_pass' hw ?_ | refine s_brk' hw ?_ | refine s_cnt' hw ?_ | refine s_exp' hw ?_ | refine s_if' hw ?_ | refine s_put' hw ?_ | refine s_for' hw ?_ (hc := cm_Lmade) | refine y_Lmade_0 hw ?_ | refine y_Lmade_1 hw ?_ | refine y_Lmade_2 hw ?_ | refine y_Lmade_3 hw ?_ | refine y_Lmade_4 hw ?_ | refine y_Lmade_5 hw ?_ | refine y_Lmade_6 hw ?_ | refine y_Lmade_7 hw ?_ | refine s_unp' hw (by kernel_rfl) (by decide +kernel) ?_) | (refine isG ?_; first | refine g_sb hw ?_ (hc := cm_Lmade) | refine g_tp2 hw ?_ (hc := cm_Lmade) | refine z_Lmade_0 hw ?_ | refine z_Lmade_1 hw ?_ | refine z_Lmade_2 hw ?_ | refine z_Lmade_3 hw ?_ | refine z_Lmade_4 hw ?_ | refine z_Lmade_5 hw ?_ | refine z_Lmade_6 hw ?_ | refine z_Lmade_7 hw ?_) | (refine isI ?_; first | refine i_name hw ?_ | refine i_tup' hw ?_ | refine i_lst' hw ?_) | refine e_and1 ?_ | refine e_and2 ?_ | refine e_or1 ?_ | refine e_or2 ?_ | refine o_none ?_ | refine o_some ?_ | refine p_nil ?_ | refine p_cons ?_ | refine a_nil ?_ | refine a_cons ?_ | refine t_and1 ?_ | refine t_and2 ?_ | refine t_or1 ?_ | refine t_or2 ?_ | refine k_bl ?_ | refine k_int ?_ | refine nd_tru ?_ | refine if_t ?_ | refine if_f ?_ | refine b_nil ?_ | refine b_cons ?_ | refine g_nil ?_ | refine g_cons ?_ | refine o_add ?_ | refine o_sub ?_ | refine o_neg ?_ | refine o_nt ?_ | refine c_lt ?_ | refine c_le ?_ | refine c_gt ?_ | refine c_ge ?_ | refine c_eqI ?_ | refine c_eqS ?_ | refine c_neS ?_ | refine c_neI ?_ | refine c_eqB ?_ | refine if_tc (by decide +kernel) ?_ | refine if_fc (by decide +kernel) ?_ | refine ne_c ?_ | refine c_leB1 ?_ | refine c_leB2 ?_ | refine c_neB ?_ | refine c_eqBI ?_ | refine c_isN ?_ | refine c_isNN ?_ | refine c_in2 ?_ | refine c_in3 ?_ | refine c_in4 ?_ | refine c_in5 ?_ | refine c_ni2 ?_ | refine c_ni4 ?_ | refine c_ni5 ?_ | refine c_eqT0 ?_ | refine c_eqT1 ?_ | refine l_tup ?_ | refine l_rol ?_ | refine l_ref (by assumption) ?_ | refine x_d0 (by assumption) ?_ | refine x_d1 (by assumption) ?_ | refine x_d2 (by assumption) ?_ | refine x_d3 (by assumption) ?_ | refine x_d0 tupd_same ?_ | refine x_d1 tupd_same ?_ | refine x_d2 tupd_same ?_ | refine x_d3 tupd_same ?_ | refine d_go4 ?_ | refine r_bl ?_ | refine r_bl4 (by assumption) ?_ | refine r_bl4 tupd_same ?_ | refine m_min ?_ | refine m_max ?_ | refine m_abs ?_ | refine x_t0 ?_ | refine x_t1 ?_ | refine x_t2 ?_) | (refine len_go ?_ ?_; · (simp; done)) | (refine o_mod ?_ ?_; · (first | decide | omega)) | (refine o_pow ⟨by decide, by decide, by decide⟩ ?_) | (refine o_mul (cmul ?_ ?_ ?_ ?_) ?_; (· omega); (· omega); (· omega); (· omega)) | (refine o_div (cdiv ?_ ?_) ?_; (· omega); (· omega)) | (refine if_tc ?_ ?_; · (first | rfl | (simp; done) | (simp; omega))) | (refine if_fc ?_ ?_; · (first | rfl | (simp; done) | (simp; omega))))
  refine u_next hd1 (by omega) (by omega) (by omega) (by omega) fun b H2 p2 q2 hd2 f2 => ?_
  repeat (first | (with_reducible first | (refine isE ?_; first | refine x_Lmade_0 hw ?_ | refine x_Lmade_1 hw ?_ | refine x_Lmade_2 hw ?_ | refine x_Lmade_3 hw ?_ | refine x_Lmade_4 hw ?_ | refine x_Lmade_5 hw ?_ | refine x_Lmade_6 hw ?_ | refine x_Lmade_7 hw ?_ | refine w_Lmade_Lnext hw ?_ | refine e_bf hw g_Lmade_len b_len (by decide +kernel) (by decide +kernel) ?_ | refine w_Lmade_Lodd hw ?_ | refine e_bf hw g_Lmade_list b_list (by decide +kernel) (by decide +kernel) ?_ | refine e_none hw ?_ | refine e_bool hw ?_ | refine e_int hw ?_ | refine e_str hw ?_ | refine e_bin hw ?_ | refine e_una hw ?_ | refine e_and hw ?_ | refine e_or hw ?_ | refine e_ife hw ?_ | refine e_cmp hw ?_ | refine e_cmp2 hw ?_ | refine e_sub hw ?_ | refine e_sl hw ?_ | refine e_tup hw ?_ | refine e_lst hw ?_ | refine e_dct hw ?_) | (refine isT ?_; first | refine t_not hw ?_ | refine t_and hw ?_ | refine t_or hw ?_ | refine t_cmp hw ?_ | refine t_cmp2 hw ?_ | refine t_name hw ?_ | refine t_call hw ?_ | refine t_sub hw ?_) | (refine isS ?_; first | refine par_Lmade_6_7 hw ?_ | refine s_ret' hw ?_ | refine s_pass' hw ?_ | refine s_brk' hw ?_ | refine s_cnt' hw ?_ | refine s_exp' hw ?_ | refine s_if' hw ?_ | refine s_put' hw ?_ | refine s_for' hw ?_ (hc := cm_Lmade) | refine y_Lmade_0 hw ?_ | refine y_Lmade_1 hw ?_ | refine y_Lmade_2 hw ?_ | refine y_Lmade_3 hw ?_ | refine y_Lmade_4 hw ?_ | refine y_Lmade_5 hw ?_ | refine y_Lmade_6 hw ?_ | refine y_Lmade_7 hw ?_ | refine s_unp' hw (by kernel_rfl) (by decide +kernel) ?_) | (refine isG ?_; first | refine g_sb hw ?_ (hc := cm_Lmade) | refine g_tp2 hw ?_ (hc := cm_Lmade) | refine z_Lmade_0 hw ?_ | refine z_Lmade_1 hw ?_ | refine z_Lmade_2 hw ?_ | refine z_Lmade_3 hw ?_ | refine z_Lmade_4 hw ?_ | refine z_Lmade_5 hw ?_ | refine z_Lmade_6 hw ?_ | refine z_Lmade_7 hw ?_) | (refine isI ?_; first | refine i_name hw ?_ | refine i_tup' hw ?_ | refine i_lst' hw ?_) | refine e_and1 ?_ | refine e_and2 ?_ | refine e_or1 ?_ | refine e_or2 ?_ | refine o_none ?_ | refine o_some ?_ | refine p_nil ?_ | refine p_cons ?_ | refine a_nil ?_ | refine a_cons ?_ | refine t_and1 ?_ | refine t_and2 ?_ | refine t_or1 ?_ | refine t_or2 ?_ | refine k_bl ?_ | refine k_int ?_ | refine nd_tru ?_ | refine if_t ?_ | refine if_f ?_ | refine b_nil ?_ | refine b_cons ?_ | refine g_nil ?_ | refine g_cons ?_ | refine o_add ?_ | refine o_sub ?_ | refine o_neg ?_ | refine o_nt ?_ | refine c_lt ?_ | refine c_le ?_ | refine c_gt ?_ | refine c_ge ?_ | refine c_eqI ?_ | refine c_eqS ?_ | refine c_neS ?_ | refine c_neI ?_ | refine c_eqB ?_ | refine if_tc (by decide +kernel) ?_ | refine if_fc (by decide +kernel) ?_ | refine ne_c ?_ | refine c_leB1 ?_ | refine c_leB2 ?_ | refine c_neB ?_ | refine c_eqBI ?_ | refine c_isN ?_ | refine c_isNN ?_ | refine c_in2 ?_ | refine c_in3 ?_ | refine c_in4 ?_ | refine c_in5 ?_ | refine c_ni2 ?_ | refine c_ni4 ?_ | refine c_ni5 ?_ | refine c_eqT0 ?_ | refine c_eqT1 ?_ | refine l_tup ?_ | refine l_rol ?_ | refine l_ref (by assumption) ?_ | refine x_d0 (by assumption) ?_ | refine x_d1 (by assumption) ?_ | refine x_d2 (by assumption) ?_ | refine x_d3 (by assumption) ?_ | refine x_d0 tupd_same ?_ | refine x_d1 tupd_same ?_ | refine x_d2 tupd_same ?_ | refine x_d3 tupd_same ?_ | refine d_go4 ?_ | refine r_bl ?_ | refine r_bl4 (by assumption) ?_ | refine r_bl4 tupd_same ?_ | refine m_min ?_ | refine m_max ?_ | refine m_abs ?_ | refine x_t0 ?_ | refine x_t1 ?_ | refine x_t2 ?_) | (refine len_go ?_ ?_; · (simp; done)) | (refine o_mod ?_ ?_; · (first | decide | omega)) | (refine o_pow ⟨by decide, by decide, by decide⟩ ?_) | (refine o_mul (cmul ?_ ?_ ?_ ?_) ?_; (· omega); (· omega); (· omega); (· omega)) | (refine o_div (cdiv ?_ ?_) ?_; (· omega); (· omega)) | (refine if_tc ?_ ?_; · (first | rfl | (simp; done) | (simp; omega))) | (refine if_fc ?_ ?_; · (first | rfl | (simp; done) | (simp; omega))))
  have f12 := f1.trans f2
  have hk : ∀ H, ∀ y ∈ l, Td 2 H y := fun H => td2 hl
  repeat' (first | (with_reducible first | refine sl_tup ?_ | (refine isE ?_; first | refine x_Lmade_0 hw ?_ | refine x_Lmade_1 hw ?_ | refine x_Lmade_2 hw ?_ | refine x_Lmade_3 hw ?_ | refine x_Lmade_4 hw ?_ | refine x_Lmade_5 hw ?_ | refine x_Lmade_6 hw ?_ | refine x_Lmade_7 hw ?_ | refine w_Lmade_Lnext hw ?_ | refine e_bf hw g_Lmade_len b_len (by decide +kernel) (by decide +kernel) ?_ | refine w_Lmade_Lodd hw ?_ | refine e_bf hw g_Lmade_list b_list (by decide +kernel) (by decide +kernel) ?_ | refine e_none hw ?_ | refine e_bool hw ?_ | refine e_int hw ?_ | refine e_str hw ?_ | refine e_bin hw ?_ | refine e_una hw ?_ | refine e_and hw ?_ | refine e_or hw ?_ | refine e_ife hw ?_ | refine e_cmp hw ?_ | refine e_cmp2 hw ?_ | refine e_sub hw ?_ | refine e_sl hw ?_ | refine e_tup hw ?_ | refine e_lst hw ?_ | refine e_dct hw ?_) | (refine isT ?_; first | refine t_not hw ?_ | refine t_and hw ?_ | refine t_or hw ?_ | refine t_cmp hw ?_ | refine t_cmp2 hw ?_ | refine t_name hw ?_ | refine t_call hw ?_ | refine t_sub hw ?_) | (refine isS ?_; first | refine par_Lmade_6_7 hw ?_ | refine s_ret' hw ?_ | refine s_pass' hw ?_ | refine s_brk' hw ?_ | refine s_cnt' hw ?_ | refine s_exp' hw ?_ | refine s_if' hw ?_ | refine s_put' hw ?_ | refine s_for' hw ?_ (hc := cm_Lmade) | refine y_Lmade_0 hw ?_ | refine y_Lmade_1 hw ?_ | refine y_Lmade_2 hw ?_ | refine y_Lmade_3 hw ?_ | refine y_Lmade_4 hw ?_ | refine y_Lmade_5 hw ?_ | refine y_Lmade_6 hw ?_ | refine y_Lmade_7 hw ?_ | refine s_unp' hw (by kernel_rfl) (by decide +kernel) ?_) | (refine isG ?_; first | refine g_sb hw ?_ (hc := cm_Lmade) | refine g_tp2 hw ?_ (hc := cm_Lmade) | refine z_Lmade_0 hw ?_ | refine z_Lmade_1 hw ?_ | refine z_Lmade_2 hw ?_ | refine z_Lmade_3 hw ?_ | refine z_Lmade_4 hw ?_ | refine z_Lmade_5 hw ?_ | refine z_Lmade_6 hw ?_ | refine z_Lmade_7 hw ?_) | (refine isI ?_; first | refine i_name hw ?_ | refine i_tup' hw ?_ | refine i_lst' hw ?_) | refine e_and1 ?_ | refine e_and2 ?_ | refine e_or1 ?_ | refine e_or2 ?_ | refine o_none ?_ | refine o_some ?_ | refine p_nil ?_ | refine p_cons ?_ | refine a_nil ?_ | refine a_cons ?_ | refine t_and1 ?_ | refine t_and2 ?_ | refine t_or1 ?_ | refine t_or2 ?_ | refine k_bl ?_ | refine k_int ?_ | refine nd_tru ?_ | refine if_t ?_ | refine if_f ?_ | refine b_nil ?_ | refine b_cons ?_ | refine g_nil ?_ | refine g_cons ?_ | refine o_add ?_ | refine o_sub ?_ | refine o_neg ?_ | refine o_nt ?_ | refine c_lt ?_ | refine c_le ?_ | refine c_gt ?_ | refine c_ge ?_ | refine c_eqI ?_ | refine c_eqS ?_ | refine c_neS ?_ | refine c_neI ?_ | refine c_eqB ?_ | refine if_tc (by decide +kernel) ?_ | refine if_fc (by decide +kernel) ?_ | refine ne_c ?_ | refine c_leB1 ?_ | refine c_leB2 ?_ | refine c_neB ?_ | refine c_eqBI ?_ | refine c_isN ?_ | refine c_isNN ?_ | refine c_in2 ?_ | refine c_in3 ?_ | refine c_in4 ?_ | refine c_in5 ?_ | refine c_ni2 ?_ | refine c_ni4 ?_ | refine c_ni5 ?_ | refine c_eqT0 ?_ | refine c_eqT1 ?_ | refine l_tup ?_ | refine l_rol ?_ | refine l_ref (by assumption) ?_ | refine x_d0 (by assumption) ?_ | refine x_d1 (by assumption) ?_ | refine x_d2 (by assumption) ?_ | refine x_d3 (by assumption) ?_ | refine x_d0 tupd_same ?_ | refine x_d1 tupd_same ?_ | refine x_d2 tupd_same ?_ | refine x_d3 tupd_same ?_ | refine d_go4 ?_ | refine r_bl ?_ | refine r_bl4 (by assumption) ?_ | refine r_bl4 tupd_same ?_ | refine m_min ?_ | refine m_max ?_ | refine m_abs ?_ | refine x_t0 ?_ | refine x_t1 ?_ | refine x_t2 ?_) | (refine len_go ?_ ?_; · (simp; done)) | (refine o_mod ?_ ?_; · (first | decide | omega)) | (refine o_pow ⟨by decide, by decide, by decide⟩ ?_) | (refine o_mul (cmul ?_ ?_ ?_ ?_) ?_; (· omega); (· omega); (· omega); (· omega)) | (refine o_div (cdiv ?_ ?_) ?_; (· omega); (· omega)) | (refine if_tc ?_ ?_; · (first | rfl | (simp; done) | (simp; omega))) | (refine if_fc ?_ ?_; · (first | rfl | (simp; done) | (simp; omega))) | refine if_c (fun _ => ?_) (fun _ => ?_) | intro _ _)
  · refine u_odd hd2 (by omega) (by omega) fun x H3 hx hd3 f3 => ?_
    repeat (first | (with_reducible first | refine sl_tup ?_ | (refine isE ?_; first | refine x_Lmade_0 hw ?_ | refine x_Lmade_1 hw ?_ | refine x_Lmade_2 hw ?_ | refine x_Lmade_3 hw ?_ | refine x_Lmade_4 hw ?_ | refine x_Lmade_5 hw ?_ | refine x_Lmade_6 hw ?_ | refine x_Lmade_7 hw ?_ | refine w_Lmade_Lnext hw ?_ | refine e_bf hw g_Lmade_len b_len (by decide +kernel) (by decide +kernel) ?_ | refine w_Lmade_Lodd hw ?_ | refine e_bf hw g_Lmade_list b_list (by decide +kernel) (by decide +kernel) ?_ | refine e_none hw ?_ | refine e_bool hw ?_ | refine e_int hw ?_ | refine e_str hw ?_ | refine e_bin hw ?_ | refine e_una hw ?_ | refine e_and hw ?_ | refine e_or hw ?_ | refine e_ife hw ?_ | refine e_cmp hw ?_ | refine e_cmp2 hw ?_ | refine e_sub hw ?_ | refine e_sl hw ?_ | refine e_tup hw ?_ | refine e_lst hw ?_ | refine e_dct hw ?_) | (refine isT ?_; first | refine t_not hw ?_ | refine t_and hw ?_ | refine t_or hw ?_ | refine t_cmp hw ?_ | refine t_cmp2 hw ?_ | refine t_name hw ?_ | refine t_call hw ?_ | refine t_sub hw ?_) | (refine isS ?_; first | refine par_Lmade_6_7 hw ?_ | refine s_ret' hw ?_ | refine s_pass' hw ?_ | refine s_brk' hw ?_ | refine s_cnt' hw ?_ | refine s_exp' hw ?_ | refine s_if' hw ?_ | refine s_put' hw ?_ | refine s_for' hw ?_ (hc := cm_Lmade) | refine y_Lmade_0 hw ?_ | refine y_Lmade_1 hw ?_ | refine y_Lmade_2 hw ?_ | refine y_Lmade_3 hw ?_ | refine y_Lmade_4 hw ?_ | refine y_Lmade_5 hw ?_ | refine y_Lmade_6 hw ?_ | refine y_Lmade_7 hw ?_ | refine s_unp' hw (by kernel_rfl) (by decide +kernel) ?_) | (refine isG ?_; first | refine g_sb hw ?_ (hc := cm_Lmade) | refine g_tp2 hw ?_ (hc := cm_Lmade) | refine z_Lmade_0 hw ?_ | refine z_Lmade_1 hw ?_ | refine z_Lmade_2 hw ?_ | refine z_Lmade_3 hw ?_ | refine z_Lmade_4 hw ?_ | refine z_Lmade_5 hw ?_ | refine z_Lmade_6 hw ?_ | refine z_Lmade_7 hw ?_) | (refine isI ?_; first | refine i_name hw ?_ | refine i_tup' hw ?_ | refine i_lst' hw ?_) | refine e_and1 ?_ | refine e_and2 ?_ | refine e_or1 ?_ | refine e_or2 ?_ | refine o_none ?_ | refine o_some ?_ | refine p_nil ?_ | refine p_cons ?_ | refine a_nil ?_ | refine a_cons ?_ | refine t_and1 ?_ | refine t_and2 ?_ | refine t_or1 ?_ | refine t_or2 ?_ | refine k_bl ?_ | refine k_int ?_ | refine nd_tru ?_ | refine if_t ?_ | refine if_f ?_ | refine b_nil ?_ | refine b_cons ?_ | refine g_nil ?_ | refine g_cons ?_ | refine o_add ?_ | refine o_sub ?_ | refine o_neg ?_ | refine o_nt ?_ | refine c_lt ?_ | refine c_le ?_ | refine c_gt ?_ | refine c_ge ?_ | refine c_eqI ?_ | refine c_eqS ?_ | refine c_neS ?_ | refine c_neI ?_ | refine c_eqB ?_ | refine if_tc (by decide +kernel) ?_ | refine if_fc (by decide +kernel) ?_ | refine ne_c ?_ | refine c_leB1 ?_ | refine c_leB2 ?_ | refine c_neB ?_ | refine c_eqBI ?_ | refine c_isN ?_ | refine c_isNN ?_ | refine c_in2 ?_ | refine c_in3 ?_ | refine c_in4 ?_ | refine c_in5 ?_ | refine c_ni2 ?_ | refine c_ni4 ?_ | refine c_ni5 ?_ | refine c_eqT0 ?_ | refine c_eqT1 ?_ | refine l_tup ?_ | refine l_rol ?_ | refine l_ref (by assumption) ?_ | refine x_d0 (by assumption) ?_ | refine x_d1 (by assumption) ?_ | refine x_d2 (by assumption) ?_ | refine x_d3 (by assumption) ?_ | refine x_d0 tupd_same ?_ | refine x_d1 tupd_same ?_ | refine x_d2 tupd_same ?_ | refine x_d3 tupd_same ?_ | refine d_go4 ?_ | refine r_bl ?_ | refine r_bl4 (by assumption) ?_ | refine r_bl4 tupd_same ?_ | refine m_min ?_ | refine m_max ?_ | refine m_abs ?_ | refine x_t0 ?_ | refine x_t1 ?_ | refine x_t2 ?_) | (refine len_go ?_ ?_; · (simp; done)) | (refine o_mod ?_ ?_; · (first | decide | omega)) | (refine o_pow ⟨by decide, by decide, by decide⟩ ?_) | (refine o_mul (cmul ?_ ?_ ?_ ?_) ?_; (· omega); (· omega); (· omega); (· omega)) | (refine o_div (cdiv ?_ ?_) ?_; (· omega); (· omega)) | (refine if_tc ?_ ?_; · (first | rfl | (simp; done) | (simp; omega))) | (refine if_fc ?_ ?_; · (first | rfl | (simp; done) | (simp; omega))))
    refine o_tadd (small_le (by have := @len_cut l none (some a); simp; omega)) ?_
    repeat (first | (with_reducible first | refine sl_tup ?_ | (refine isE ?_; first | refine x_Lmade_0 hw ?_ | refine x_Lmade_1 hw ?_ | refine x_Lmade_2 hw ?_ | refine x_Lmade_3 hw ?_ | refine x_Lmade_4 hw ?_ | refine x_Lmade_5 hw ?_ | refine x_Lmade_6 hw ?_ | refine x_Lmade_7 hw ?_ | refine w_Lmade_Lnext hw ?_ | refine e_bf hw g_Lmade_len b_len (by decide +kernel) (by decide +kernel) ?_ | refine w_Lmade_Lodd hw ?_ | refine e_bf hw g_Lmade_list b_list (by decide +kernel) (by decide +kernel) ?_ | refine e_none hw ?_ | refine e_bool hw ?_ | refine e_int hw ?_ | refine e_str hw ?_ | refine e_bin hw ?_ | refine e_una hw ?_ | refine e_and hw ?_ | refine e_or hw ?_ | refine e_ife hw ?_ | refine e_cmp hw ?_ | refine e_cmp2 hw ?_ | refine e_sub hw ?_ | refine e_sl hw ?_ | refine e_tup hw ?_ | refine e_lst hw ?_ | refine e_dct hw ?_) | (refine isT ?_; first | refine t_not hw ?_ | refine t_and hw ?_ | refine t_or hw ?_ | refine t_cmp hw ?_ | refine t_cmp2 hw ?_ | refine t_name hw ?_ | refine t_call hw ?_ | refine t_sub hw ?_) | (refine isS ?_; first | refine par_Lmade_6_7 hw ?_ | refine s_ret' hw ?_ | refine s_pass' hw ?_ | refine s_brk' hw ?_ | refine s_cnt' hw ?_ | refine s_exp' hw ?_ | refine s_if' hw ?_ | refine s_put' hw ?_ | refine s_for' hw ?_ (hc := cm_Lmade) | refine y_Lmade_0 hw ?_ | refine y_Lmade_1 hw ?_ | refine y_Lmade_2 hw ?_ | refine y_Lmade_3 hw ?_ | refine y_Lmade_4 hw ?_ | refine y_Lmade_5 hw ?_ | refine y_Lmade_6 hw ?_ | refine y_Lmade_7 hw ?_ | refine s_unp' hw (by kernel_rfl) (by decide +kernel) ?_) | (refine isG ?_; first | refine g_sb hw ?_ (hc := cm_Lmade) | refine g_tp2 hw ?_ (hc := cm_Lmade) | refine z_Lmade_0 hw ?_ | refine z_Lmade_1 hw ?_ | refine z_Lmade_2 hw ?_ | refine z_Lmade_3 hw ?_ | refine z_Lmade_4 hw ?_ | refine z_Lmade_5 hw ?_ | refine z_Lmade_6 hw ?_ | refine z_Lmade_7 hw ?_) | (refine isI ?_; first | refine i_name hw ?_ | refine i_tup' hw ?_ | refine i_lst' hw ?_) | refine e_and1 ?_ | refine e_and2 ?_ | refine e_or1 ?_ | refine e_or2 ?_ | refine o_none ?_ | refine o_some ?_ | refine p_nil ?_ | refine p_cons ?_ | refine a_nil ?_ | refine a_cons ?_ | refine t_and1 ?_ | refine t_and2 ?_ | refine t_or1 ?_ | refine t_or2 ?_ | refine k_bl ?_ | refine k_int ?_ | refine nd_tru ?_ | refine if_t ?_ | refine if_f ?_ | refine b_nil ?_ | refine b_cons ?_ | refine g_nil ?_ | refine g_cons ?_ | refine o_add ?_ | refine o_sub ?_ | refine o_neg ?_ | refine o_nt ?_ | refine c_lt ?_ | refine c_le ?_ | refine c_gt ?_ | refine c_ge ?_ | refine c_eqI ?_ | refine c_eqS ?_ | refine c_neS ?_ | refine c_neI ?_ | refine c_eqB ?_ | refine if_tc (by decide +kernel) ?_ | refine if_fc (by decide +kernel) ?_ | refine ne_c ?_ | refine c_leB1 ?_ | refine c_leB2 ?_ | refine c_neB ?_ | refine c_eqBI ?_ | refine c_isN ?_ | refine c_isNN ?_ | refine c_in2 ?_ | refine c_in3 ?_ | refine c_in4 ?_ | refine c_in5 ?_ | refine c_ni2 ?_ | refine c_ni4 ?_ | refine c_ni5 ?_ | refine c_eqT0 ?_ | refine c_eqT1 ?_ | refine l_tup ?_ | refine l_rol ?_ | refine l_ref (by assumption) ?_ | refine x_d0 (by assumption) ?_ | refine x_d1 (by assumption) ?_ | refine x_d2 (by assumption) ?_ | refine x_d3 (by assumption) ?_ | refine x_d0 tupd_same ?_ | refine x_d1 tupd_same ?_ | refine x_d2 tupd_same ?_ | refine x_d3 tupd_same ?_ | refine d_go4 ?_ | refine r_bl ?_ | refine r_bl4 (by assumption) ?_ | refine r_bl4 tupd_same ?_ | refine m_min ?_ | refine m_max ?_ | refine m_abs ?_ | refine x_t0 ?_ | refine x_t1 ?_ | refine x_t2 ?_) | (refine len_go ?_ ?_; · (simp; done)) | (refine o_mod ?_ ?_; · (first | decide | omega)) | (refine o_pow ⟨by decide, by decide, by decide⟩ ?_) | (refine o_mul (cmul ?_ ?_ ?_ ?_) ?_; (· omega); (· omega); (· omega); (· omega)) | (refine o_div (cdiv ?_ ?_) ?_; (· omega); (· omega)) | (refine if_tc ?_ ?_; · (first | rfl | (simp; done) | (simp; omega))) | (refine if_fc ?_ ?_; · (first | rfl | (simp; done) | (simp; omega))))
    refine o_tadd (small_le (by have := @len_cut l none (some a); have := @len_cut l (some (a + 1)) none; simp; omega)) ?_
    refine h _ _ (td_tup (by have := @len_cut l none (some a); have := @len_cut l (some (a + 1)) none; simp; omega) fun y hy => ?_) (hd3.up (by omega)) (f12.trans f3)
    simp only [List.mem_append, List.mem_cons, List.not_mem_nil, or_false] at hy
    rcases hy with (hy | rfl) | hy
    · exact hk _ _ (mem_cut hy)
    · exact hx
    · exact hk _ _ (mem_cut hy)
  · refine o_tadd (small_le (by have := @len_cut l (some (-1)) none; omega)) ?_
    repeat (first | (with_reducible first | refine sl_tup ?_ | refine li_tup ?_ | (refine isE ?_; first | refine x_Lmade_0 hw ?_ | refine x_Lmade_1 hw ?_ | refine x_Lmade_2 hw ?_ | refine x_Lmade_3 hw ?_ | refine x_Lmade_4 hw ?_ | refine x_Lmade_5 hw ?_ | refine x_Lmade_6 hw ?_ | refine x_Lmade_7 hw ?_ | refine w_Lmade_Lnext hw ?_ | refine e_bf hw g_Lmade_len b_len (by decide +kernel) (by decide +kernel) ?_ | refine w_Lmade_Lodd hw ?_ | refine e_bf hw g_Lmade_list b_list (by decide +kernel) (by decide +kernel) ?_ | refine e_none hw ?_ | refine e_bool hw ?_ | refine e_int hw ?_ | refine e_str hw ?_ | refine e_bin hw ?_ | refine e_una hw ?_ | refine e_and hw ?_ | refine e_or hw ?_ | refine e_ife hw ?_ | refine e_cmp hw ?_ | refine e_cmp2 hw ?_ | refine e_sub hw ?_ | refine e_sl hw ?_ | refine e_tup hw ?_ | refine e_lst hw ?_ | refine e_dct hw ?_) | (refine isT ?_; first | refine t_not hw ?_ | refine t_and hw ?_ | refine t_or hw ?_ | refine t_cmp hw ?_ | refine t_cmp2 hw ?_ | refine t_name hw ?_ | refine t_call hw ?_ | refine t_sub hw ?_) | (refine isS ?_; first | refine par_Lmade_6_7 hw ?_ | refine s_ret' hw ?_ | refine s_pass' hw ?_ | refine s_brk' hw ?_ | refine s_cnt' hw ?_ | refine s_exp' hw ?_ | refine s_if' hw ?_ | refine s_put' hw ?_ | refine s_for' hw ?_ (hc := cm_Lmade) | refine y_Lmade_0 hw ?_ | refine y_Lmade_1 hw ?_ | refine y_Lmade_2 hw ?_ | refine y_Lmade_3 hw ?_ | refine y_Lmade_4 hw ?_ | refine y_Lmade_5 hw ?_ | refine y_Lmade_6 hw ?_ | refine y_Lmade_7 hw ?_ | refine s_unp' hw (by kernel_rfl) (by decide +kernel) ?_) | (refine isG ?_; first | refine g_sb hw ?_ (hc := cm_Lmade) | refine g_tp2 hw ?_ (hc := cm_Lmade) | refine z_Lmade_0 hw ?_ | refine z_Lmade_1 hw ?_ | refine z_Lmade_2 hw ?_ | refine z_Lmade_3 hw ?_ | refine z_Lmade_4 hw ?_ | refine z_Lmade_5 hw ?_ | refine z_Lmade_6 hw ?_ | refine z_Lmade_7 hw ?_) | (refine isI ?_; first | refine i_name hw ?_ | refine i_tup' hw ?_ | refine i_lst' hw ?_) | refine e_and1 ?_ | refine e_and2 ?_ | refine e_or1 ?_ | refine e_or2 ?_ | refine o_none ?_ | refine o_some ?_ | refine p_nil ?_ | refine p_cons ?_ | refine a_nil ?_ | refine a_cons ?_ | refine t_and1 ?_ | refine t_and2 ?_ | refine t_or1 ?_ | refine t_or2 ?_ | refine k_bl ?_ | refine k_int ?_ | refine nd_tru ?_ | refine if_t ?_ | refine if_f ?_ | refine b_nil ?_ | refine b_cons ?_ | refine g_nil ?_ | refine g_cons ?_ | refine o_add ?_ | refine o_sub ?_ | refine o_neg ?_ | refine o_nt ?_ | refine c_lt ?_ | refine c_le ?_ | refine c_gt ?_ | refine c_ge ?_ | refine c_eqI ?_ | refine c_eqS ?_ | refine c_neS ?_ | refine c_neI ?_ | refine c_eqB ?_ | refine if_tc (by decide +kernel) ?_ | refine if_fc (by decide +kernel) ?_ | refine ne_c ?_ | refine c_leB1 ?_ | refine c_leB2 ?_ | refine c_neB ?_ | refine c_eqBI ?_ | refine c_isN ?_ | refine c_isNN ?_ | refine c_in2 ?_ | refine c_in3 ?_ | refine c_in4 ?_ | refine c_in5 ?_ | refine c_ni2 ?_ | refine c_ni4 ?_ | refine c_ni5 ?_ | refine c_eqT0 ?_ | refine c_eqT1 ?_ | refine l_tup ?_ | refine l_rol ?_ | refine l_ref (by assumption) ?_ | refine x_d0 (by assumption) ?_ | refine x_d1 (by assumption) ?_ | refine x_d2 (by assumption) ?_ | refine x_d3 (by assumption) ?_ | refine x_d0 tupd_same ?_ | refine x_d1 tupd_same ?_ | refine x_d2 tupd_same ?_ | refine x_d3 tupd_same ?_ | refine d_go4 ?_ | refine r_bl ?_ | refine r_bl4 (by assumption) ?_ | refine r_bl4 tupd_same ?_ | refine m_min ?_ | refine m_max ?_ | refine m_abs ?_ | refine x_t0 ?_ | refine x_t1 ?_ | refine x_t2 ?_) | (refine len_go ?_ ?_; · (simp; done)) | (refine o_mod ?_ ?_; · (first | decide | omega)) | (refine o_pow ⟨by decide, by decide, by decide⟩ ?_) | (refine o_mul (cmul ?_ ?_ ?_ ?_) ?_; (· omega); (· omega); (· omega); (· omega)) | (refine o_div (cdiv ?_ ?_) ?_; (· omega); (· omega)) | (refine if_tc ?_ ?_; · (first | rfl | (simp; done) | (simp; omega))) | (refine if_fc ?_ ?_; · (first | rfl | (simp; done) | (simp; omega))))
    intro p3 n3; generalize hh3 : tupd _ p3 _ = H3; have e3 := tsame hh3; have f3 := frof hh3 n3; clear hh3
    repeat (first | (with_reducible first | refine sl_tup ?_ | (refine isE ?_; first | refine x_Lmade_0 hw ?_ | refine x_Lmade_1 hw ?_ | refine x_Lmade_2 hw ?_ | refine x_Lmade_3 hw ?_ | refine x_Lmade_4 hw ?_ | refine x_Lmade_5 hw ?_ | refine x_Lmade_6 hw ?_ | refine x_Lmade_7 hw ?_ | refine w_Lmade_Lnext hw ?_ | refine e_bf hw g_Lmade_len b_len (by decide +kernel) (by decide +kernel) ?_ | refine w_Lmade_Lodd hw ?_ | refine e_bf hw g_Lmade_list b_list (by decide +kernel) (by decide +kernel) ?_ | refine e_none hw ?_ | refine e_bool hw ?_ | refine e_int hw ?_ | refine e_str hw ?_ | refine e_bin hw ?_ | refine e_una hw ?_ | refine e_and hw ?_ | refine e_or hw ?_ | refine e_ife hw ?_ | refine e_cmp hw ?_ | refine e_cmp2 hw ?_ | refine e_sub hw ?_ | refine e_sl hw ?_ | refine e_tup hw ?_ | refine e_lst hw ?_ | refine e_dct hw ?_) | (refine isT ?_; first | refine t_not hw ?_ | refine t_and hw ?_ | refine t_or hw ?_ | refine t_cmp hw ?_ | refine t_cmp2 hw ?_ | refine t_name hw ?_ | refine t_call hw ?_ | refine t_sub hw ?_) | (refine isS ?_; first | refine par_Lmade_6_7 hw ?_ | refine s_ret' hw ?_ | refine s_pass' hw ?_ | refine s_brk' hw ?_ | refine s_cnt' hw ?_ | refine s_exp' hw ?_ | refine s_if' hw ?_ | refine s_put' hw ?_ | refine s_for' hw ?_ (hc := cm_Lmade) | refine y_Lmade_0 hw ?_ | refine y_Lmade_1 hw ?_ | refine y_Lmade_2 hw ?_ | refine y_Lmade_3 hw ?_ | refine y_Lmade_4 hw ?_ | refine y_Lmade_5 hw ?_ | refine y_Lmade_6 hw ?_ | refine y_Lmade_7 hw ?_ | refine s_unp' hw (by kernel_rfl) (by decide +kernel) ?_) | (refine isG ?_; first | refine g_sb hw ?_ (hc := cm_Lmade) | refine g_tp2 hw ?_ (hc := cm_Lmade) | refine z_Lmade_0 hw ?_ | refine z_Lmade_1 hw ?_ | refine z_Lmade_2 hw ?_ | refine z_Lmade_3 hw ?_ | refine z_Lmade_4 hw ?_ | refine z_Lmade_5 hw ?_ | refine z_Lmade_6 hw ?_ | refine z_Lmade_7 hw ?_) | (refine isI ?_; first | refine i_name hw ?_ | refine i_tup' hw ?_ | refine i_lst' hw ?_) | refine e_and1 ?_ | refine e_and2 ?_ | refine e_or1 ?_ | refine e_or2 ?_ | refine o_none ?_ | refine o_some ?_ | refine p_nil ?_ | refine p_cons ?_ | refine a_nil ?_ | refine a_cons ?_ | refine t_and1 ?_ | refine t_and2 ?_ | refine t_or1 ?_ | refine t_or2 ?_ | refine k_bl ?_ | refine k_int ?_ | refine nd_tru ?_ | refine if_t ?_ | refine if_f ?_ | refine b_nil ?_ | refine b_cons ?_ | refine g_nil ?_ | refine g_cons ?_ | refine o_add ?_ | refine o_sub ?_ | refine o_neg ?_ | refine o_nt ?_ | refine c_lt ?_ | refine c_le ?_ | refine c_gt ?_ | refine c_ge ?_ | refine c_eqI ?_ | refine c_eqS ?_ | refine c_neS ?_ | refine c_neI ?_ | refine c_eqB ?_ | refine if_tc (by decide +kernel) ?_ | refine if_fc (by decide +kernel) ?_ | refine ne_c ?_ | refine c_leB1 ?_ | refine c_leB2 ?_ | refine c_neB ?_ | refine c_eqBI ?_ | refine c_isN ?_ | refine c_isNN ?_ | refine c_in2 ?_ | refine c_in3 ?_ | refine c_in4 ?_ | refine c_in5 ?_ | refine c_ni2 ?_ | refine c_ni4 ?_ | refine c_ni5 ?_ | refine c_eqT0 ?_ | refine c_eqT1 ?_ | refine l_tup ?_ | refine l_rol ?_ | refine l_ref (by assumption) ?_ | refine x_d0 (by assumption) ?_ | refine x_d1 (by assumption) ?_ | refine x_d2 (by assumption) ?_ | refine x_d3 (by assumption) ?_ | refine x_d0 tupd_same ?_ | refine x_d1 tupd_same ?_ | refine x_d2 tupd_same ?_ | refine x_d3 tupd_same ?_ | refine d_go4 ?_ | refine r_bl ?_ | refine r_bl4 (by assumption) ?_ | refine r_bl4 tupd_same ?_ | refine m_min ?_ | refine m_max ?_ | refine m_abs ?_ | refine x_t0 ?_ | refine x_t1 ?_ | refine x_t2 ?_) | (refine len_go ?_ ?_; · (simp; done)) | (refine o_mod ?_ ?_; · (first | decide | omega)) | (refine o_pow ⟨by decide, by decide, by decide⟩ ?_) | (refine o_mul (cmul ?_ ?_ ?_ ?_) ?_; (· omega); (· omega); (· omega); (· omega)) | (refine o_div (cdiv ?_ ?_) ?_; (· omega); (· omega)) | (refine if_tc ?_ ?_; · (first | rfl | (simp; done) | (simp; omega))) | (refine if_fc ?_ ?_; · (first | rfl | (simp; done) | (simp; omega))))
    refine o_tadd (small_le (by simp; omega)) ?_
    repeat (first | (with_reducible first | (refine isE ?_; first | refine x_Lmade_0 hw ?_ | refine x_Lmade_1 hw ?_ | refine x_Lmade_2 hw ?_ | refine x_Lmade_3 hw ?_ | refine x_Lmade_4 hw ?_ | refine x_Lmade_5 hw ?_ | refine x_Lmade_6 hw ?_ | refine x_Lmade_7 hw ?_ | refine w_Lmade_Lnext hw ?_ | refine e_bf hw g_Lmade_len b_len (by decide +kernel) (by decide +kernel) ?_ | refine w_Lmade_Lodd hw ?_ | refine e_bf hw g_Lmade_list b_list (by decide +kernel) (by decide +kernel) ?_ | refine e_none hw ?_ | refine e_bool hw ?_ | refine e_int hw ?_ | refine e_str hw ?_ | refine e_bin hw ?_ | refine e_una hw ?_ | refine e_and hw ?_ | refine e_or hw ?_ | refine e_ife hw ?_ | refine e_cmp hw ?_ | refine e_cmp2 hw ?_ | refine e_sub hw ?_ | refine e_sl hw ?_ | refine e_tup hw ?_ | refine e_lst hw ?_ | refine e_dct hw ?_) | (refine isT ?_; first | refine t_not hw ?_ | refine t_and hw ?_ | refine t_or hw ?_ | refine t_cmp hw ?_ | refine t_cmp2 hw ?_ | refine t_name hw ?_ | refine t_call hw ?_ | refine t_sub hw ?_) | (refine isS ?_; first | refine par_Lmade_6_7 hw ?_ | refine s_ret' hw ?_ | refine s_pass' hw ?_ | refine s_brk' hw ?_ | refine s_cnt' hw ?_ | refine s_exp' hw ?_ | refine s_if' hw ?_ | refine s_put' hw ?_ | refine s_for' hw ?_ (hc := cm_Lmade) | refine y_Lmade_0 hw ?_ | refine y_Lmade_1 hw ?_ | refine y_Lmade_2 hw ?_ | refine y_Lmade_3 hw ?_ | refine y_Lmade_4 hw ?_ | refine y_Lmade_5 hw ?_ | refine y_Lmade_6 hw ?_ | refine y_Lmade_7 hw ?_ | refine s_unp' hw (by kernel_rfl) (by decide +kernel) ?_) | (refine isG ?_; first | refine g_sb hw ?_ (hc := cm_Lmade) | refine g_tp2 hw ?_ (hc := cm_Lmade) | refine z_Lmade_0 hw ?_ | refine z_Lmade_1 hw ?_ | refine z_Lmade_2 hw ?_ | refine z_Lmade_3 hw ?_ | refine z_Lmade_4 hw ?_ | refine z_Lmade_5 hw ?_ | refine z_Lmade_6 hw ?_ | refine z_Lmade_7 hw ?_) | (refine isI ?_; first | refine i_name hw ?_ | refine i_tup' hw ?_ | refine i_lst' hw ?_) | refine e_and1 ?_ | refine e_and2 ?_ | refine e_or1 ?_ | refine e_or2 ?_ | refine o_none ?_ | refine o_some ?_ | refine p_nil ?_ | refine p_cons ?_ | refine a_nil ?_ | refine a_cons ?_ | refine t_and1 ?_ | refine t_and2 ?_ | refine t_or1 ?_ | refine t_or2 ?_ | refine k_bl ?_ | refine k_int ?_ | refine nd_tru ?_ | refine if_t ?_ | refine if_f ?_ | refine b_nil ?_ | refine b_cons ?_ | refine g_nil ?_ | refine g_cons ?_ | refine o_add ?_ | refine o_sub ?_ | refine o_neg ?_ | refine o_nt ?_ | refine c_lt ?_ | refine c_le ?_ | refine c_gt ?_ | refine c_ge ?_ | refine c_eqI ?_ | refine c_eqS ?_ | refine c_neS ?_ | refine c_neI ?_ | refine c_eqB ?_ | refine if_tc (by decide +kernel) ?_ | refine if_fc (by decide +kernel) ?_ | refine ne_c ?_ | refine c_leB1 ?_ | refine c_leB2 ?_ | refine c_neB ?_ | refine c_eqBI ?_ | refine c_isN ?_ | refine c_isNN ?_ | refine c_in2 ?_ | refine c_in3 ?_ | refine c_in4 ?_ | refine c_in5 ?_ | refine c_ni2 ?_ | refine c_ni4 ?_ | refine c_ni5 ?_ | refine c_eqT0 ?_ | refine c_eqT1 ?_ | refine l_tup ?_ | refine l_rol ?_ | refine l_ref (by assumption) ?_ | refine x_d0 (by assumption) ?_ | refine x_d1 (by assumption) ?_ | refine x_d2 (by assumption) ?_ | refine x_d3 (by assumption) ?_ | refine x_d0 tupd_same ?_ | refine x_d1 tupd_same ?_ | refine x_d2 tupd_same ?_ | refine x_d3 tupd_same ?_ | refine d_go4 ?_ | refine r_bl ?_ | refine r_bl4 (by assumption) ?_ | refine r_bl4 tupd_same ?_ | refine m_min ?_ | refine m_max ?_ | refine m_abs ?_ | refine x_t0 ?_ | refine x_t1 ?_ | refine x_t2 ?_) | (refine len_go ?_ ?_; · (simp; done)) | (refine o_mod ?_ ?_; · (first | decide | omega)) | (refine o_pow ⟨by decide, by decide, by decide⟩ ?_) | (refine o_mul (cmul ?_ ?_ ?_ ?_) ?_; (· omega); (· omega); (· omega); (· omega)) | (refine o_div (cdiv ?_ ?_) ?_; (· omega); (· omega)) | (refine if_tc ?_ ?_; · (first | rfl | (simp; done) | (simp; omega))) | (refine if_fc ?_ ?_; · (first | rfl | (simp; done) | (simp; omega))))
    refine x_hd l1 fun y hy => ?_
    repeat (first | (with_reducible first | (refine isE ?_; first | refine x_Lmade_0 hw ?_ | refine x_Lmade_1 hw ?_ | refine x_Lmade_2 hw ?_ | refine x_Lmade_3 hw ?_ | refine x_Lmade_4 hw ?_ | refine x_Lmade_5 hw ?_ | refine x_Lmade_6 hw ?_ | refine x_Lmade_7 hw ?_ | refine w_Lmade_Lnext hw ?_ | refine e_bf hw g_Lmade_len b_len (by decide +kernel) (by decide +kernel) ?_ | refine w_Lmade_Lodd hw ?_ | refine e_bf hw g_Lmade_list b_list (by decide +kernel) (by decide +kernel) ?_ | refine e_none hw ?_ | refine e_bool hw ?_ | refine e_int hw ?_ | refine e_str hw ?_ | refine e_bin hw ?_ | refine e_una hw ?_ | refine e_and hw ?_ | refine e_or hw ?_ | refine e_ife hw ?_ | refine e_cmp hw ?_ | refine e_cmp2 hw ?_ | refine e_sub hw ?_ | refine e_sl hw ?_ | refine e_tup hw ?_ | refine e_lst hw ?_ | refine e_dct hw ?_) | (refine isT ?_; first | refine t_not hw ?_ | refine t_and hw ?_ | refine t_or hw ?_ | refine t_cmp hw ?_ | refine t_cmp2 hw ?_ | refine t_name hw ?_ | refine t_call hw ?_ | refine t_sub hw ?_) | (refine isS ?_; first | refine par_Lmade_6_7 hw ?_ | refine s_ret' hw ?_ | refine s_pass' hw ?_ | refine s_brk' hw ?_ | refine s_cnt' hw ?_ | refine s_exp' hw ?_ | refine s_if' hw ?_ | refine s_put' hw ?_ | refine s_for' hw ?_ (hc := cm_Lmade) | refine y_Lmade_0 hw ?_ | refine y_Lmade_1 hw ?_ | refine y_Lmade_2 hw ?_ | refine y_Lmade_3 hw ?_ | refine y_Lmade_4 hw ?_ | refine y_Lmade_5 hw ?_ | refine y_Lmade_6 hw ?_ | refine y_Lmade_7 hw ?_ | refine s_unp' hw (by kernel_rfl) (by decide +kernel) ?_) | (refine isG ?_; first | refine g_sb hw ?_ (hc := cm_Lmade) | refine g_tp2 hw ?_ (hc := cm_Lmade) | refine z_Lmade_0 hw ?_ | refine z_Lmade_1 hw ?_ | refine z_Lmade_2 hw ?_ | refine z_Lmade_3 hw ?_ | refine z_Lmade_4 hw ?_ | refine z_Lmade_5 hw ?_ | refine z_Lmade_6 hw ?_ | refine z_Lmade_7 hw ?_) | (refine isI ?_; first | refine i_name hw ?_ | refine i_tup' hw ?_ | refine i_lst' hw ?_) | refine e_and1 ?_ | refine e_and2 ?_ | refine e_or1 ?_ | refine e_or2 ?_ | refine o_none ?_ | refine o_some ?_ | refine p_nil ?_ | refine p_cons ?_ | refine a_nil ?_ | refine a_cons ?_ | refine t_and1 ?_ | refine t_and2 ?_ | refine t_or1 ?_ | refine t_or2 ?_ | refine k_bl ?_ | refine k_int ?_ | refine nd_tru ?_ | refine if_t ?_ | refine if_f ?_ | refine b_nil ?_ | refine b_cons ?_ | refine g_nil ?_ | refine g_cons ?_ | refine o_add ?_ | refine o_sub ?_ | refine o_neg ?_ | refine o_nt ?_ | refine c_lt ?_ | refine c_le ?_ | refine c_gt ?_ | refine c_ge ?_ | refine c_eqI ?_ | refine c_eqS ?_ | refine c_neS ?_ | refine c_neI ?_ | refine c_eqB ?_ | refine if_tc (by decide +kernel) ?_ | refine if_fc (by decide +kernel) ?_ | refine ne_c ?_ | refine c_leB1 ?_ | refine c_leB2 ?_ | refine c_neB ?_ | refine c_eqBI ?_ | refine c_isN ?_ | refine c_isNN ?_ | refine c_in2 ?_ | refine c_in3 ?_ | refine c_in4 ?_ | refine c_in5 ?_ | refine c_ni2 ?_ | refine c_ni4 ?_ | refine c_ni5 ?_ | refine c_eqT0 ?_ | refine c_eqT1 ?_ | refine l_tup ?_ | refine l_rol ?_ | refine l_ref (by assumption) ?_ | refine x_d0 (by assumption) ?_ | refine x_d1 (by assumption) ?_ | refine x_d2 (by assumption) ?_ | refine x_d3 (by assumption) ?_ | refine x_d0 tupd_same ?_ | refine x_d1 tupd_same ?_ | refine x_d2 tupd_same ?_ | refine x_d3 tupd_same ?_ | refine d_go4 ?_ | refine r_bl ?_ | refine r_bl4 (by assumption) ?_ | refine r_bl4 tupd_same ?_ | refine m_min ?_ | refine m_max ?_ | refine m_abs ?_ | refine x_t0 ?_ | refine x_t1 ?_ | refine x_t2 ?_) | (refine len_go ?_ ?_; · (simp; done)) | (refine o_mod ?_ ?_; · (first | decide | omega)) | (refine o_pow ⟨by decide, by decide, by decide⟩ ?_) | (refine o_mul (cmul ?_ ?_ ?_ ?_) ?_; (· omega); (· omega); (· omega); (· omega)) | (refine o_div (cdiv ?_ ?_) ?_; (· omega); (· omega)) | (refine if_tc ?_ ?_; · (first | rfl | (simp; done) | (simp; omega))) | (refine if_fc ?_ ?_; · (first | rfl | (simp; done) | (simp; omega))))
    intro p4 n4; generalize hh4 : tupd _ p4 _ = H4; have e4 := tsame hh4; have f4 := frof hh4 n4; clear hh4
    repeat (first | (with_reducible first | (refine isE ?_; first | refine x_Lmade_0 hw ?_ | refine x_Lmade_1 hw ?_ | refine x_Lmade_2 hw ?_ | refine x_Lmade_3 hw ?_ | refine x_Lmade_4 hw ?_ | refine x_Lmade_5 hw ?_ | refine x_Lmade_6 hw ?_ | refine x_Lmade_7 hw ?_ | refine w_Lmade_Lnext hw ?_ | refine e_bf hw g_Lmade_len b_len (by decide +kernel) (by decide +kernel) ?_ | refine w_Lmade_Lodd hw ?_ | refine e_bf hw g_Lmade_list b_list (by decide +kernel) (by decide +kernel) ?_ | refine e_none hw ?_ | refine e_bool hw ?_ | refine e_int hw ?_ | refine e_str hw ?_ | refine e_bin hw ?_ | refine e_una hw ?_ | refine e_and hw ?_ | refine e_or hw ?_ | refine e_ife hw ?_ | refine e_cmp hw ?_ | refine e_cmp2 hw ?_ | refine e_sub hw ?_ | refine e_sl hw ?_ | refine e_tup hw ?_ | refine e_lst hw ?_ | refine e_dct hw ?_) | (refine isT ?_; first | refine t_not hw ?_ | refine t_and hw ?_ | refine t_or hw ?_ | refine t_cmp hw ?_ | refine t_cmp2 hw ?_ | refine t_name hw ?_ | refine t_call hw ?_ | refine t_sub hw ?_) | (refine isS ?_; first | refine par_Lmade_6_7 hw ?_ | refine s_ret' hw ?_ | refine s_pass' hw ?_ | refine s_brk' hw ?_ | refine s_cnt' hw ?_ | refine s_exp' hw ?_ | refine s_if' hw ?_ | refine s_put' hw ?_ | refine s_for' hw ?_ (hc := cm_Lmade) | refine y_Lmade_0 hw ?_ | refine y_Lmade_1 hw ?_ | refine y_Lmade_2 hw ?_ | refine y_Lmade_3 hw ?_ | refine y_Lmade_4 hw ?_ | refine y_Lmade_5 hw ?_ | refine y_Lmade_6 hw ?_ | refine y_Lmade_7 hw ?_ | refine s_unp' hw (by kernel_rfl) (by decide +kernel) ?_) | (refine isG ?_; first | refine g_sb hw ?_ (hc := cm_Lmade) | refine g_tp2 hw ?_ (hc := cm_Lmade) | refine z_Lmade_0 hw ?_ | refine z_Lmade_1 hw ?_ | refine z_Lmade_2 hw ?_ | refine z_Lmade_3 hw ?_ | refine z_Lmade_4 hw ?_ | refine z_Lmade_5 hw ?_ | refine z_Lmade_6 hw ?_ | refine z_Lmade_7 hw ?_) | (refine isI ?_; first | refine i_name hw ?_ | refine i_tup' hw ?_ | refine i_lst' hw ?_) | refine e_and1 ?_ | refine e_and2 ?_ | refine e_or1 ?_ | refine e_or2 ?_ | refine o_none ?_ | refine o_some ?_ | refine p_nil ?_ | refine p_cons ?_ | refine a_nil ?_ | refine a_cons ?_ | refine t_and1 ?_ | refine t_and2 ?_ | refine t_or1 ?_ | refine t_or2 ?_ | refine k_bl ?_ | refine k_int ?_ | refine nd_tru ?_ | refine if_t ?_ | refine if_f ?_ | refine b_nil ?_ | refine b_cons ?_ | refine g_nil ?_ | refine g_cons ?_ | refine o_add ?_ | refine o_sub ?_ | refine o_neg ?_ | refine o_nt ?_ | refine c_lt ?_ | refine c_le ?_ | refine c_gt ?_ | refine c_ge ?_ | refine c_eqI ?_ | refine c_eqS ?_ | refine c_neS ?_ | refine c_neI ?_ | refine c_eqB ?_ | refine if_tc (by decide +kernel) ?_ | refine if_fc (by decide +kernel) ?_ | refine ne_c ?_ | refine c_leB1 ?_ | refine c_leB2 ?_ | refine c_neB ?_ | refine c_eqBI ?_ | refine c_isN ?_ | refine c_isNN ?_ | refine c_in2 ?_ | refine c_in3 ?_ | refine c_in4 ?_ | refine c_in5 ?_ | refine c_ni2 ?_ | refine c_ni4 ?_ | refine c_ni5 ?_ | refine c_eqT0 ?_ | refine c_eqT1 ?_ | refine l_tup ?_ | refine l_rol ?_ | refine l_ref (by assumption) ?_ | refine x_d0 (by assumption) ?_ | refine x_d1 (by assumption) ?_ | refine x_d2 (by assumption) ?_ | refine x_d3 (by assumption) ?_ | refine x_d0 tupd_same ?_ | refine x_d1 tupd_same ?_ | refine x_d2 tupd_same ?_ | refine x_d3 tupd_same ?_ | refine d_go4 ?_ | refine r_bl ?_ | refine r_bl4 (by assumption) ?_ | refine r_bl4 tupd_same ?_ | refine m_min ?_ | refine m_max ?_ | refine m_abs ?_ | refine x_t0 ?_ | refine x_t1 ?_ | refine x_t2 ?_) | (refine len_go ?_ ?_; · (simp; done)) | (refine o_mod ?_ ?_; · (first | decide | omega)) | (refine o_pow ⟨by decide, by decide, by decide⟩ ?_) | (refine o_mul (cmul ?_ ?_ ?_ ?_) ?_; (· omega); (· omega); (· omega); (· omega)) | (refine o_div (cdiv ?_ ?_) ?_; (· omega); (· omega)) | (refine if_tc ?_ ?_; · (first | rfl | (simp; done) | (simp; omega))) | (refine if_fc ?_ ?_; · (first | rfl | (simp; done) | (simp; omega))))
    have hd4 := hd2.fr (f3.trans f4)
    refine u_next hd4 (by omega) (by omega) (by omega) (by omega) fun r H5 r1 r2 hd5 f5 => ?_
    repeat (first | (with_reducible first | (refine isE ?_; first | refine x_Lmade_0 hw ?_ | refine x_Lmade_1 hw ?_ | refine x_Lmade_2 hw ?_ | refine x_Lmade_3 hw ?_ | refine x_Lmade_4 hw ?_ | refine x_Lmade_5 hw ?_ | refine x_Lmade_6 hw ?_ | refine x_Lmade_7 hw ?_ | refine w_Lmade_Lnext hw ?_ | refine e_bf hw g_Lmade_len b_len (by decide +kernel) (by decide +kernel) ?_ | refine w_Lmade_Lodd hw ?_ | refine e_bf hw g_Lmade_list b_list (by decide +kernel) (by decide +kernel) ?_ | refine e_none hw ?_ | refine e_bool hw ?_ | refine e_int hw ?_ | refine e_str hw ?_ | refine e_bin hw ?_ | refine e_una hw ?_ | refine e_and hw ?_ | refine e_or hw ?_ | refine e_ife hw ?_ | refine e_cmp hw ?_ | refine e_cmp2 hw ?_ | refine e_sub hw ?_ | refine e_sl hw ?_ | refine e_tup hw ?_ | refine e_lst hw ?_ | refine e_dct hw ?_) | (refine isT ?_; first | refine t_not hw ?_ | refine t_and hw ?_ | refine t_or hw ?_ | refine t_cmp hw ?_ | refine t_cmp2 hw ?_ | refine t_name hw ?_ | refine t_call hw ?_ | refine t_sub hw ?_) | (refine isS ?_; first | refine par_Lmade_6_7 hw ?_ | refine s_ret' hw ?_ | refine s_pass' hw ?_ | refine s_brk' hw ?_ | refine s_cnt' hw ?_ | refine s_exp' hw ?_ | refine s_if' hw ?_ | refine s_put' hw ?_ | refine s_for' hw ?_ (hc := cm_Lmade) | refine y_Lmade_0 hw ?_ | refine y_Lmade_1 hw ?_ | refine y_Lmade_2 hw ?_ | refine y_Lmade_3 hw ?_ | refine y_Lmade_4 hw ?_ | refine y_Lmade_5 hw ?_ | refine y_Lmade_6 hw ?_ | refine y_Lmade_7 hw ?_ | refine s_unp' hw (by kernel_rfl) (by decide +kernel) ?_) | (refine isG ?_; first | refine g_sb hw ?_ (hc := cm_Lmade) | refine g_tp2 hw ?_ (hc := cm_Lmade) | refine z_Lmade_0 hw ?_ | refine z_Lmade_1 hw ?_ | refine z_Lmade_2 hw ?_ | refine z_Lmade_3 hw ?_ | refine z_Lmade_4 hw ?_ | refine z_Lmade_5 hw ?_ | refine z_Lmade_6 hw ?_ | refine z_Lmade_7 hw ?_) | (refine isI ?_; first | refine i_name hw ?_ | refine i_tup' hw ?_ | refine i_lst' hw ?_) | refine e_and1 ?_ | refine e_and2 ?_ | refine e_or1 ?_ | refine e_or2 ?_ | refine o_none ?_ | refine o_some ?_ | refine p_nil ?_ | refine p_cons ?_ | refine a_nil ?_ | refine a_cons ?_ | refine t_and1 ?_ | refine t_and2 ?_ | refine t_or1 ?_ | refine t_or2 ?_ | refine k_bl ?_ | refine k_int ?_ | refine nd_tru ?_ | refine if_t ?_ | refine if_f ?_ | refine b_nil ?_ | refine b_cons ?_ | refine g_nil ?_ | refine g_cons ?_ | refine o_add ?_ | refine o_sub ?_ | refine o_neg ?_ | refine o_nt ?_ | refine c_lt ?_ | refine c_le ?_ | refine c_gt ?_ | refine c_ge ?_ | refine c_eqI ?_ | refine c_eqS ?_ | refine c_neS ?_ | refine c_neI ?_ | refine c_eqB ?_ | refine if_tc (by decide +kernel) ?_ | refine if_fc (by decide +kernel) ?_ | refine ne_c ?_ | refine c_leB1 ?_ | refine c_leB2 ?_ | refine c_neB ?_ | refine c_eqBI ?_ | refine c_isN ?_ | refine c_isNN ?_ | refine c_in2 ?_ | refine c_in3 ?_ | refine c_in4 ?_ | refine c_in5 ?_ | refine c_ni2 ?_ | refine c_ni4 ?_ | refine c_ni5 ?_ | refine c_eqT0 ?_ | refine c_eqT1 ?_ | refine l_tup ?_ | refine l_rol ?_ | refine l_ref (by assumption) ?_ | refine x_d0 (by assumption) ?_ | refine x_d1 (by assumption) ?_ | refine x_d2 (by assumption) ?_ | refine x_d3 (by assumption) ?_ | refine x_d0 tupd_same ?_ | refine x_d1 tupd_same ?_ | refine x_d2 tupd_same ?_ | refine x_d3 tupd_same ?_ | refine d_go4 ?_ | refine r_bl ?_ | refine r_bl4 (by assumption) ?_ | refine r_bl4 tupd_same ?_ | refine m_min ?_ | refine m_max ?_ | refine m_abs ?_ | refine x_t0 ?_ | refine x_t1 ?_ | refine x_t2 ?_) | (refine len_go ?_ ?_; · (simp; done)) | (refine o_mod ?_ ?_; · (first | decide | omega)) | (refine o_pow ⟨by decide, by decide, by decide⟩ ?_) | (refine o_mul (cmul ?_ ?_ ?_ ?_) ?_; (· omega); (· omega); (· omega); (· omega)) | (refine o_div (cdiv ?_ ?_) ?_; (· omega); (· omega)) | (refine if_tc ?_ ?_; · (first | rfl | (simp; done) | (simp; omega))) | (refine if_fc ?_ ?_; · (first | rfl | (simp; done) | (simp; omega))))
    refine x_at (f5 p4 _ (drw_ne (hd2.fr f3) n4) e4) r1 (by simpa using r2) fun v hv => ?_
    refine h _ _ ?_ (hd5.up (by omega)) (f12.trans ((f3.trans f4).fx.trans f5))
    refine Td.fx (H := H4) ?_ f5 hd5
    simp only [List.mem_cons, List.not_mem_nil, or_false] at hv
    rcases hv with rfl | rfl | rfl | rfl | rfl
    · exact td_tup (by have := @len_cut l none (some (-1)); omega) fun y hy => hk _ _ (mem_cut hy)
    · refine td_tup (by have := @len_cut l (some (-1)) none; simp; omega) fun y hy => ?_
      rcases List.mem_append.mp hy with hy | hy
      · exact hk _ _ hy
      · exact hk _ _ (mem_cut hy)
    · exact td_ref (f4 _ _ e3) rfl
    · refine td_tup (by simp; omega) fun y hy => ?_
      rcases List.mem_append.mp hy with hy | hy
      · exact hk _ _ hy
      · simp only [List.mem_cons, List.not_mem_nil, or_false] at hy
        subst hy
        exact td_no rfl rfl
    · exact (hk _ _ hy).up
  · exact h _ _ (td_tup (by omega) fun y hy => hk H2 y hy) (hd2.up (by omega)) f12
theorem bd_Lmade {w : Nat → WP} (hw : Steps w) {v0 : TV} {H : TH} {E : TX} {Q : TQ} (h : sp_Lmade [v0] H E Q) : blockW ((w 40).s S_Lmade G_Lmade) (defBody st_Lmade) ⟨fun _ H => Q .non H, Q, fun _ _ => False, fun _ _ => False, fun e _ H => E e H⟩ [some v0, none, none, none, none, none, none, none] H := by
  obtain ⟨d, m, e, hd, m1, m2, h⟩ := h
  cases e
  refine b_cons ?_
  repeat (first | (with_reducible first | (refine isE ?_; first | refine x_Lmade_0 hw ?_ | refine x_Lmade_1 hw ?_ | refine x_Lmade_2 hw ?_ | refine x_Lmade_3 hw ?_ | refine x_Lmade_4 hw ?_ | refine x_Lmade_5 hw ?_ | refine x_Lmade_6 hw ?_ | refine x_Lmade_7 hw ?_ | refine w_Lmade_Lnext hw ?_ | refine e_bf hw g_Lmade_len b_len (by decide +kernel) (by decide +kernel) ?_ | refine w_Lmade_Lodd hw ?_ | refine e_bf hw g_Lmade_list b_list (by decide +kernel) (by decide +kernel) ?_ | refine e_none hw ?_ | refine e_bool hw ?_ | refine e_int hw ?_ | refine e_str hw ?_ | refine e_bin hw ?_ | refine e_una hw ?_ | refine e_and hw ?_ | refine e_or hw ?_ | refine e_ife hw ?_ | refine e_cmp hw ?_ | refine e_cmp2 hw ?_ | refine e_sub hw ?_ | refine e_sl hw ?_ | refine e_tup hw ?_ | refine e_lst hw ?_ | refine e_dct hw ?_) | (refine isT ?_; first | refine t_not hw ?_ | refine t_and hw ?_ | refine t_or hw ?_ | refine t_cmp hw ?_ | refine t_cmp2 hw ?_ | refine t_name hw ?_ | refine t_call hw ?_ | refine t_sub hw ?_) | (refine isS ?_; first | refine par_Lmade_6_7 hw ?_ | refine s_ret' hw ?_ | refine s_pass' hw ?_ | refine s_brk' hw ?_ | refine s_cnt' hw ?_ | refine s_exp' hw ?_ | refine s_if' hw ?_ | refine s_put' hw ?_ | refine s_for' hw ?_ (hc := cm_Lmade) | refine y_Lmade_0 hw ?_ | refine y_Lmade_1 hw ?_ | refine y_Lmade_2 hw ?_ | refine y_Lmade_3 hw ?_ | refine y_Lmade_4 hw ?_ | refine y_Lmade_5 hw ?_ | refine y_Lmade_6 hw ?_ | refine y_Lmade_7 hw ?_ | refine s_unp' hw (by kernel_rfl) (by decide +kernel) ?_) | (refine isG ?_; first | refine g_sb hw ?_ (hc := cm_Lmade) | refine g_tp2 hw ?_ (hc := cm_Lmade) | refine z_Lmade_0 hw ?_ | refine z_Lmade_1 hw ?_ | refine z_Lmade_2 hw ?_ | refine z_Lmade_3 hw ?_ | refine z_Lmade_4 hw ?_ | refine z_Lmade_5 hw ?_ | refine z_Lmade_6 hw ?_ | refine z_Lmade_7 hw ?_) | (refine isI ?_; first | refine i_name hw ?_ | refine i_tup' hw ?_ | refine i_lst' hw ?_) | refine e_and1 ?_ | refine e_and2 ?_ | refine e_or1 ?_ | refine e_or2 ?_ | refine o_none ?_ | refine o_some ?_ | refine p_nil ?_ | refine p_cons ?_ | refine a_nil ?_ | refine a_cons ?_ | refine t_and1 ?_ | refine t_and2 ?_ | refine t_or1 ?_ | refine t_or2 ?_ | refine k_bl ?_ | refine k_int ?_ | refine nd_tru ?_ | refine if_t ?_ | refine if_f ?_ | refine b_nil ?_ | refine b_cons ?_ | refine g_nil ?_ | refine g_cons ?_ | refine o_add ?_ | refine o_sub ?_ | refine o_neg ?_ | refine o_nt ?_ | refine c_lt ?_ | refine c_le ?_ | refine c_gt ?_ | refine c_ge ?_ | refine c_eqI ?_ | refine c_eqS ?_ | refine c_neS ?_ | refine c_neI ?_ | refine c_eqB ?_ | refine if_tc (by decide +kernel) ?_ | refine if_fc (by decide +kernel) ?_ | refine ne_c ?_ | refine c_leB1 ?_ | refine c_leB2 ?_ | refine c_neB ?_ | refine c_eqBI ?_ | refine c_isN ?_ | refine c_isNN ?_ | refine c_in2 ?_ | refine c_in3 ?_ | refine c_in4 ?_ | refine c_in5 ?_ | refine c_ni2 ?_ | refine c_ni4 ?_ | refine c_ni5 ?_ | refine c_eqT0 ?_ | refine c_eqT1 ?_ | refine l_tup ?_ | refine l_rol ?_ | refine l_ref (by assumption) ?_ | refine x_d0 (by assumption) ?_ | refine x_d1 (by assumption) ?_ | refine x_d2 (by assumption) ?_ | refine x_d3 (by assumption) ?_ | refine x_d0 tupd_same ?_ | refine x_d1 tupd_same ?_ | refine x_d2 tupd_same ?_ | refine x_d3 tupd_same ?_ | refine d_go4 ?_ | refine r_bl ?_ | refine r_bl4 (by assumption) ?_ | refine r_bl4 tupd_same ?_ | refine m_min ?_ | refine m_max ?_ | refine m_abs ?_ | refine x_t0 ?_ | refine x_t1 ?_ | refine x_t2 ?_) | (refine len_go ?_ ?_; · (simp; done)) | (refine o_mod ?_ ?_; · (first | decide | omega)) | (refine o_pow ⟨by decide, by decide, by decide⟩ ?_) | (refine o_mul (cmul ?_ ?_ ?_ ?_) ?_; (· omega); (· omega); (· omega); (· omega)) | (refine o_div (cdiv ?_ ?_) ?_; (· omega); (· omega)) | (refine if_tc ?_ ?_; · (first | rfl | (simp; done) | (simp; omega))) | (refine if_fc ?_ ?_; · (first | rfl | (simp; done) | (simp; omega))))
  refine u_next hd (by omega) (by omega) (by omega) (by omega) fun a H1 p1 q1 hd1 f1 => ?_
  repeat (first | (with_reducible first | (refine isE ?_; first | refine x_Lmade_0 hw ?_ | refine x_Lmade_1 hw ?_ | refine x_Lmade_2 hw ?_ | refine x_Lmade_3 hw ?_ | refine x_Lmade_4 hw ?_ | refine x_Lmade_5 hw ?_ | refine x_Lmade_6 hw ?_ | refine x_Lmade_7 hw ?_ | refine w_Lmade_Lnext hw ?_ | refine e_bf hw g_Lmade_len b_len (by decide +kernel) (by decide +kernel) ?_ | refine w_Lmade_Lodd hw ?_ | refine e_bf hw g_Lmade_list b_list (by decide +kernel) (by decide +kernel) ?_ | refine e_none hw ?_ | refine e_bool hw ?_ | refine e_int hw ?_ | refine e_str hw ?_ | refine e_bin hw ?_ | refine e_una hw ?_ | refine e_and hw ?_ | refine e_or hw ?_ | refine e_ife hw ?_ | refine e_cmp hw ?_ | refine e_cmp2 hw ?_ | refine e_sub hw ?_ | refine e_sl hw ?_ | refine e_tup hw ?_ | refine e_lst hw ?_ | refine e_dct hw ?_) | (refine isT ?_; first | refine t_not hw ?_ | refine t_and hw ?_ | refine t_or hw ?_ | refine t_cmp hw ?_ | refine t_cmp2 hw ?_ | refine t_name hw ?_ | refine t_call hw ?_ | refine t_sub hw ?_) | (refine isS ?_; first | refine par_Lmade_6_7 hw ?_ | refine s_ret' hw ?_ | refine s_pass' hw ?_ | refine s_brk' hw ?_ | refine s_cnt' hw ?_ | refine s_exp' hw ?_ | refine s_if' hw ?_ | refine s_put' hw ?_ | refine s_for' hw ?_ (hc := cm_Lmade) | refine y_Lmade_0 hw ?_ | refine y_Lmade_1 hw ?_ | refine y_Lmade_2 hw ?_ | refine y_Lmade_3 hw ?_ | refine y_Lmade_4 hw ?_ | refine y_Lmade_5 hw ?_ | refine y_Lmade_6 hw ?_ | refine y_Lmade_7 hw ?_ | refine s_unp' hw (by kernel_rfl) (by decide +kernel) ?_) | (refine isG ?_; first | refine g_sb hw ?_ (hc := cm_Lmade) | refine g_tp2 hw ?_ (hc := cm_Lmade) | refine z_Lmade_0 hw ?_ | refine z_Lmade_1 hw ?_ | refine z_Lmade_2 hw ?_ | refine z_Lmade_3 hw ?_ | refine z_Lmade_4 hw ?_ | refine z_Lmade_5 hw ?_ | refine z_Lmade_6 hw ?_ | refine z_Lmade_7 hw ?_) | (refine isI ?_; first | refine i_name hw ?_ | refine i_tup' hw ?_ | refine i_lst' hw ?_) | refine e_and1 ?_ | refine e_and2 ?_ | refine e_or1 ?_ | refine e_or2 ?_ | refine o_none ?_ | refine o_some ?_ | refine p_nil ?_ | refine p_cons ?_ | refine a_nil ?_ | refine a_cons ?_ | refine t_and1 ?_ | refine t_and2 ?_ | refine t_or1 ?_ | refine t_or2 ?_ | refine k_bl ?_ | refine k_int ?_ | refine nd_tru ?_ | refine if_t ?_ | refine if_f ?_ | refine b_nil ?_ | refine b_cons ?_ | refine g_nil ?_ | refine g_cons ?_ | refine o_add ?_ | refine o_sub ?_ | refine o_neg ?_ | refine o_nt ?_ | refine c_lt ?_ | refine c_le ?_ | refine c_gt ?_ | refine c_ge ?_ | refine c_eqI ?_ | refine c_eqS ?_ | refine c_neS ?_ | refine c_neI ?_ | refine c_eqB ?_ | refine if_tc (by decide +kernel) ?_ | refine if_fc (by decide +kernel) ?_ | refine ne_c ?_ | refine c_leB1 ?_ | refine c_leB2 ?_ | refine c_neB ?_ | refine c_eqBI ?_ | refine c_isN ?_ | refine c_isNN ?_ | refine c_in2 ?_ | refine c_in3 ?_ | refine c_in4 ?_ | refine c_in5 ?_ | refine c_ni2 ?_ | refine c_ni4 ?_ | refine c_ni5 ?_ | refine c_eqT0 ?_ | refine c_eqT1 ?_ | refine l_tup ?_ | refine l_rol ?_ | refine l_ref (by assumption) ?_ | refine x_d0 (by assumption) ?_ | refine x_d1 (by assumption) ?_ | refine x_d2 (by assumption) ?_ | refine x_d3 (by assumption) ?_ | refine x_d0 tupd_same ?_ | refine x_d1 tupd_same ?_ | refine x_d2 tupd_same ?_ | refine x_d3 tupd_same ?_ | refine d_go4 ?_ | refine r_bl ?_ | refine r_bl4 (by assumption) ?_ | refine r_bl4 tupd_same ?_ | refine m_min ?_ | refine m_max ?_ | refine m_abs ?_ | refine x_t0 ?_ | refine x_t1 ?_ | refine x_t2 ?_) | (refine len_go ?_ ?_; · (simp; done)) | (refine o_mod ?_ ?_; · (first | decide | omega)) | (refine o_pow ⟨by decide, by decide, by decide⟩ ?_) | (refine o_mul (cmul ?_ ?_ ?_ ?_) ?_; (· omega); (· omega); (· omega); (· omega)) | (refine o_div (cdiv ?_ ?_) ?_; (· omega); (· omega)) | (refine if_tc ?_ ?_; · (first | rfl | (simp; done) | (simp; omega))) | (refine if_fc ?_ ?_; · (first | rfl | (simp; done) | (simp; omega))))
  intro p2 n2; generalize hh2 : tupd _ p2 _ = H2; have e2 := tsame hh2; have f2 := frof hh2 n2; clear hh2
  repeat (first | (with_reducible first | (refine isE ?_; first | refine x_Lmade_0 hw ?_ | refine x_Lmade_1 hw ?_ | refine x_Lmade_2 hw ?_ | refine x_Lmade_3 hw ?_ | refine x_Lmade_4 hw ?_ | refine x_Lmade_5 hw ?_ | refine x_Lmade_6 hw ?_ | refine x_Lmade_7 hw ?_ | refine w_Lmade_Lnext hw ?_ | refine e_bf hw g_Lmade_len b_len (by decide +kernel) (by decide +kernel) ?_ | refine w_Lmade_Lodd hw ?_ | refine e_bf hw g_Lmade_list b_list (by decide +kernel) (by decide +kernel) ?_ | refine e_none hw ?_ | refine e_bool hw ?_ | refine e_int hw ?_ | refine e_str hw ?_ | refine e_bin hw ?_ | refine e_una hw ?_ | refine e_and hw ?_ | refine e_or hw ?_ | refine e_ife hw ?_ | refine e_cmp hw ?_ | refine e_cmp2 hw ?_ | refine e_sub hw ?_ | refine e_sl hw ?_ | refine e_tup hw ?_ | refine e_lst hw ?_ | refine e_dct hw ?_) | (refine isT ?_; first | refine t_not hw ?_ | refine t_and hw ?_ | refine t_or hw ?_ | refine t_cmp hw ?_ | refine t_cmp2 hw ?_ | refine t_name hw ?_ | refine t_call hw ?_ | refine t_sub hw ?_) | (refine isS ?_; first | refine par_Lmade_6_7 hw ?_ | refine s_ret' hw ?_ | refine s_pass' hw ?_ | refine s_brk' hw ?_ | refine s_cnt' hw ?_ | refine s_exp' hw ?_ | refine s_if' hw ?_ | refine s_put' hw ?_ | refine s_for' hw ?_ (hc := cm_Lmade) | refine y_Lmade_0 hw ?_ | refine y_Lmade_1 hw ?_ | refine y_Lmade_2 hw ?_ | refine y_Lmade_3 hw ?_ | refine y_Lmade_4 hw ?_ | refine y_Lmade_5 hw ?_ | refine y_Lmade_6 hw ?_ | refine y_Lmade_7 hw ?_ | refine s_unp' hw (by kernel_rfl) (by decide +kernel) ?_) | (refine isG ?_; first | refine g_sb hw ?_ (hc := cm_Lmade) | refine g_tp2 hw ?_ (hc := cm_Lmade) | refine z_Lmade_0 hw ?_ | refine z_Lmade_1 hw ?_ | refine z_Lmade_2 hw ?_ | refine z_Lmade_3 hw ?_ | refine z_Lmade_4 hw ?_ | refine z_Lmade_5 hw ?_ | refine z_Lmade_6 hw ?_ | refine z_Lmade_7 hw ?_) | (refine isI ?_; first | refine i_name hw ?_ | refine i_tup' hw ?_ | refine i_lst' hw ?_) | refine e_and1 ?_ | refine e_and2 ?_ | refine e_or1 ?_ | refine e_or2 ?_ | refine o_none ?_ | refine o_some ?_ | refine p_nil ?_ | refine p_cons ?_ | refine a_nil ?_ | refine a_cons ?_ | refine t_and1 ?_ | refine t_and2 ?_ | refine t_or1 ?_ | refine t_or2 ?_ | refine k_bl ?_ | refine k_int ?_ | refine nd_tru ?_ | refine if_t ?_ | refine if_f ?_ | refine b_nil ?_ | refine b_cons ?_ | refine g_nil ?_ | refine g_cons ?_ | refine o_add ?_ | refine o_sub ?_ | refine o_neg ?_ | refine o_nt ?_ | refine c_lt ?_ | refine c_le ?_ | refine c_gt ?_ | refine c_ge ?_ | refine c_eqI ?_ | refine c_eqS ?_ | refine c_neS ?_ | refine c_neI ?_ | refine c_eqB ?_ | refine if_tc (by decide +kernel) ?_ | refine if_fc (by decide +kernel) ?_ | refine ne_c ?_ | refine c_leB1 ?_ | refine c_leB2 ?_ | refine c_neB ?_ | refine c_eqBI ?_ | refine c_isN ?_ | refine c_isNN ?_ | refine c_in2 ?_ | refine c_in3 ?_ | refine c_in4 ?_ | refine c_in5 ?_ | refine c_ni2 ?_ | refine c_ni4 ?_ | refine c_ni5 ?_ | refine c_eqT0 ?_ | refine c_eqT1 ?_ | refine l_tup ?_ | refine l_rol ?_ | refine l_ref (by assumption) ?_ | refine x_d0 (by assumption) ?_ | refine x_d1 (by assumption) ?_ | refine x_d2 (by assumption) ?_ | refine x_d3 (by assumption) ?_ | refine x_d0 tupd_same ?_ | refine x_d1 tupd_same ?_ | refine x_d2 tupd_same ?_ | refine x_d3 tupd_same ?_ | refine d_go4 ?_ | refine r_bl ?_ | refine r_bl4 (by assumption) ?_ | refine r_bl4 tupd_same ?_ | refine m_min ?_ | refine m_max ?_ | refine m_abs ?_ | refine x_t0 ?_ | refine x_t1 ?_ | refine x_t2 ?_) | (refine len_go ?_ ?_; · (simp; done)) | (refine o_mod ?_ ?_; · (first | decide | omega)) | (refine o_pow ⟨by decide, by decide, by decide⟩ ?_) | (refine o_mul (cmul ?_ ?_ ?_ ?_) ?_; (· omega); (· omega); (· omega); (· omega)) | (refine o_div (cdiv ?_ ?_) ?_; (· omega); (· omega)) | (refine if_tc ?_ ?_; · (first | rfl | (simp; done) | (simp; omega))) | (refine if_fc ?_ ?_; · (first | rfl | (simp; done) | (simp; omega))))
  refine u_next (hd1.fr f2) (by omega) (by omega) (by omega) (by omega) fun b H3 a3 b3 hd3 f3 => ?_
  repeat (first | (with_reducible first | (refine isE ?_; first | refine x_Lmade_0 hw ?_ | refine x_Lmade_1 hw ?_ | refine x_Lmade_2 hw ?_ | refine x_Lmade_3 hw ?_ | refine x_Lmade_4 hw ?_ | refine x_Lmade_5 hw ?_ | refine x_Lmade_6 hw ?_ | refine x_Lmade_7 hw ?_ | refine w_Lmade_Lnext hw ?_ | refine e_bf hw g_Lmade_len b_len (by decide +kernel) (by decide +kernel) ?_ | refine w_Lmade_Lodd hw ?_ | refine e_bf hw g_Lmade_list b_list (by decide +kernel) (by decide +kernel) ?_ | refine e_none hw ?_ | refine e_bool hw ?_ | refine e_int hw ?_ | refine e_str hw ?_ | refine e_bin hw ?_ | refine e_una hw ?_ | refine e_and hw ?_ | refine e_or hw ?_ | refine e_ife hw ?_ | refine e_cmp hw ?_ | refine e_cmp2 hw ?_ | refine e_sub hw ?_ | refine e_sl hw ?_ | refine e_tup hw ?_ | refine e_lst hw ?_ | refine e_dct hw ?_) | (refine isT ?_; first | refine t_not hw ?_ | refine t_and hw ?_ | refine t_or hw ?_ | refine t_cmp hw ?_ | refine t_cmp2 hw ?_ | refine t_name hw ?_ | refine t_call hw ?_ | refine t_sub hw ?_) | (refine isS ?_; first | refine par_Lmade_6_7 hw ?_ | refine s_ret' hw ?_ | refine s_pass' hw ?_ | refine s_brk' hw ?_ | refine s_cnt' hw ?_ | refine s_exp' hw ?_ | refine s_if' hw ?_ | refine s_put' hw ?_ | refine s_for' hw ?_ (hc := cm_Lmade) | refine y_Lmade_0 hw ?_ | refine y_Lmade_1 hw ?_ | refine y_Lmade_2 hw ?_ | refine y_Lmade_3 hw ?_ | refine y_Lmade_4 hw ?_ | refine y_Lmade_5 hw ?_ | refine y_Lmade_6 hw ?_ | refine y_Lmade_7 hw ?_ | refine s_unp' hw (by kernel_rfl) (by decide +kernel) ?_) | (refine isG ?_; first | refine g_sb hw ?_ (hc := cm_Lmade) | refine g_tp2 hw ?_ (hc := cm_Lmade) | refine z_Lmade_0 hw ?_ | refine z_Lmade_1 hw ?_ | refine z_Lmade_2 hw ?_ | refine z_Lmade_3 hw ?_ | refine z_Lmade_4 hw ?_ | refine z_Lmade_5 hw ?_ | refine z_Lmade_6 hw ?_ | refine z_Lmade_7 hw ?_) | (refine isI ?_; first | refine i_name hw ?_ | refine i_tup' hw ?_ | refine i_lst' hw ?_) | refine e_and1 ?_ | refine e_and2 ?_ | refine e_or1 ?_ | refine e_or2 ?_ | refine o_none ?_ | refine o_some ?_ | refine p_nil ?_ | refine p_cons ?_ | refine a_nil ?_ | refine a_cons ?_ | refine t_and1 ?_ | refine t_and2 ?_ | refine t_or1 ?_ | refine t_or2 ?_ | refine k_bl ?_ | refine k_int ?_ | refine nd_tru ?_ | refine if_t ?_ | refine if_f ?_ | refine b_nil ?_ | refine b_cons ?_ | refine g_nil ?_ | refine g_cons ?_ | refine o_add ?_ | refine o_sub ?_ | refine o_neg ?_ | refine o_nt ?_ | refine c_lt ?_ | refine c_le ?_ | refine c_gt ?_ | refine c_ge ?_ | refine c_eqI ?_ | refine c_eqS ?_ | refine c_neS ?_ | refine c_neI ?_ | refine c_eqB ?_ | refine if_tc (by decide +kernel) ?_ | refine if_fc (by decide +kernel) ?_ | refine ne_c ?_ | refine c_leB1 ?_ | refine c_leB2 ?_ | refine c_neB ?_ | refine c_eqBI ?_ | refine c_isN ?_ | refine c_isNN ?_ | refine c_in2 ?_ | refine c_in3 ?_ | refine c_in4 ?_ | refine c_in5 ?_ | refine c_ni2 ?_ | refine c_ni4 ?_ | refine c_ni5 ?_ | refine c_eqT0 ?_ | refine c_eqT1 ?_ | refine l_tup ?_ | refine l_rol ?_ | refine l_ref (by assumption) ?_ | refine x_d0 (by assumption) ?_ | refine x_d1 (by assumption) ?_ | refine x_d2 (by assumption) ?_ | refine x_d3 (by assumption) ?_ | refine x_d0 tupd_same ?_ | refine x_d1 tupd_same ?_ | refine x_d2 tupd_same ?_ | refine x_d3 tupd_same ?_ | refine d_go4 ?_ | refine r_bl ?_ | refine r_bl4 (by assumption) ?_ | refine r_bl4 tupd_same ?_ | refine m_min ?_ | refine m_max ?_ | refine m_abs ?_ | refine x_t0 ?_ | refine x_t1 ?_ | refine x_t2 ?_) | (refine len_go ?_ ?_; · (simp; done)) | (refine o_mod ?_ ?_; · (first | decide | omega)) | (refine o_pow ⟨by decide, by decide, by decide⟩ ?_) | (refine o_mul (cmul ?_ ?_ ?_ ?_) ?_; (· omega); (· omega); (· omega); (· omega)) | (refine o_div (cdiv ?_ ?_) ?_; (· omega); (· omega)) | (refine if_tc ?_ ?_; · (first | rfl | (simp; done) | (simp; omega))) | (refine if_fc ?_ ?_; · (first | rfl | (simp; done) | (simp; omega))))
  refine x_at (f3 p2 _ (drw_ne hd1 n2) e2) a3 (by simpa using b3) fun v hv => ?_
  obtain ⟨i, rfl⟩ : ∃ i, v = .int i := by
    simp only [List.mem_cons, List.not_mem_nil, or_false] at hv
    rcases hv with rfl | rfl | rfl | rfl | rfl | rfl | rfl <;> exact ⟨_, rfl⟩
  repeat (first | (with_reducible first | (refine isE ?_; first | refine x_Lmade_0 hw ?_ | refine x_Lmade_1 hw ?_ | refine x_Lmade_2 hw ?_ | refine x_Lmade_3 hw ?_ | refine x_Lmade_4 hw ?_ | refine x_Lmade_5 hw ?_ | refine x_Lmade_6 hw ?_ | refine x_Lmade_7 hw ?_ | refine w_Lmade_Lnext hw ?_ | refine e_bf hw g_Lmade_len b_len (by decide +kernel) (by decide +kernel) ?_ | refine w_Lmade_Lodd hw ?_ | refine e_bf hw g_Lmade_list b_list (by decide +kernel) (by decide +kernel) ?_ | refine e_none hw ?_ | refine e_bool hw ?_ | refine e_int hw ?_ | refine e_str hw ?_ | refine e_bin hw ?_ | refine e_una hw ?_ | refine e_and hw ?_ | refine e_or hw ?_ | refine e_ife hw ?_ | refine e_cmp hw ?_ | refine e_cmp2 hw ?_ | refine e_sub hw ?_ | refine e_sl hw ?_ | refine e_tup hw ?_ | refine e_lst hw ?_ | refine e_dct hw ?_) | (refine isT ?_; first | refine t_not hw ?_ | refine t_and hw ?_ | refine t_or hw ?_ | refine t_cmp hw ?_ | refine t_cmp2 hw ?_ | refine t_name hw ?_ | refine t_call hw ?_ | refine t_sub hw ?_) | (refine isS ?_; first | refine par_Lmade_6_7 hw ?_ | refine s_ret' hw ?_ | refine s_pass' hw ?_ | refine s_brk' hw ?_ | refine s_cnt' hw ?_ | refine s_exp' hw ?_ | refine s_if' hw ?_ | refine s_put' hw ?_ | refine s_for' hw ?_ (hc := cm_Lmade) | refine y_Lmade_0 hw ?_ | refine y_Lmade_1 hw ?_ | refine y_Lmade_2 hw ?_ | refine y_Lmade_3 hw ?_ | refine y_Lmade_4 hw ?_ | refine y_Lmade_5 hw ?_ | refine y_Lmade_6 hw ?_ | refine y_Lmade_7 hw ?_ | refine s_unp' hw (by kernel_rfl) (by decide +kernel) ?_) | (refine isG ?_; first | refine g_sb hw ?_ (hc := cm_Lmade) | refine g_tp2 hw ?_ (hc := cm_Lmade) | refine z_Lmade_0 hw ?_ | refine z_Lmade_1 hw ?_ | refine z_Lmade_2 hw ?_ | refine z_Lmade_3 hw ?_ | refine z_Lmade_4 hw ?_ | refine z_Lmade_5 hw ?_ | refine z_Lmade_6 hw ?_ | refine z_Lmade_7 hw ?_) | (refine isI ?_; first | refine i_name hw ?_ | refine i_tup' hw ?_ | refine i_lst' hw ?_) | refine e_and1 ?_ | refine e_and2 ?_ | refine e_or1 ?_ | refine e_or2 ?_ | refine o_none ?_ | refine o_some ?_ | refine p_nil ?_ | refine p_cons ?_ | refine a_nil ?_ | refine a_cons ?_ | refine t_and1 ?_ | refine t_and2 ?_ | refine t_or1 ?_ | refine t_or2 ?_ | refine k_bl ?_ | refine k_int ?_ | refine nd_tru ?_ | refine if_t ?_ | refine if_f ?_ | refine b_nil ?_ | refine b_cons ?_ | refine g_nil ?_ | refine g_cons ?_ | refine o_add ?_ | refine o_sub ?_ | refine o_neg ?_ | refine o_nt ?_ | refine c_lt ?_ | refine c_le ?_ | refine c_gt ?_ | refine c_ge ?_ | refine c_eqI ?_ | refine c_eqS ?_ | refine c_neS ?_ | refine c_neI ?_ | refine c_eqB ?_ | refine if_tc (by decide +kernel) ?_ | refine if_fc (by decide +kernel) ?_ | refine ne_c ?_ | refine c_leB1 ?_ | refine c_leB2 ?_ | refine c_neB ?_ | refine c_eqBI ?_ | refine c_isN ?_ | refine c_isNN ?_ | refine c_in2 ?_ | refine c_in3 ?_ | refine c_in4 ?_ | refine c_in5 ?_ | refine c_ni2 ?_ | refine c_ni4 ?_ | refine c_ni5 ?_ | refine c_eqT0 ?_ | refine c_eqT1 ?_ | refine l_tup ?_ | refine l_rol ?_ | refine l_ref (by assumption) ?_ | refine x_d0 (by assumption) ?_ | refine x_d1 (by assumption) ?_ | refine x_d2 (by assumption) ?_ | refine x_d3 (by assumption) ?_ | refine x_d0 tupd_same ?_ | refine x_d1 tupd_same ?_ | refine x_d2 tupd_same ?_ | refine x_d3 tupd_same ?_ | refine d_go4 ?_ | refine r_bl ?_ | refine r_bl4 (by assumption) ?_ | refine r_bl4 tupd_same ?_ | refine m_min ?_ | refine m_max ?_ | refine m_abs ?_ | refine x_t0 ?_ | refine x_t1 ?_ | refine x_t2 ?_) | (refine len_go ?_ ?_; · (simp; done)) | (refine o_mod ?_ ?_; · (first | decide | omega)) | (refine o_pow ⟨by decide, by decide, by decide⟩ ?_) | (refine o_mul (cmul ?_ ?_ ?_ ?_) ?_; (· omega); (· omega); (· omega); (· omega)) | (refine o_div (cdiv ?_ ?_) ?_; (· omega); (· omega)) | (refine if_tc ?_ ?_; · (first | rfl | (simp; done) | (simp; omega))) | (refine if_fc ?_ ?_; · (first | rfl | (simp; done) | (simp; omega))))
  intro p4 n4; generalize hh4 : tupd _ p4 _ = H4; have e4 := tsame hh4; have f4 := frof hh4 n4; clear hh4
  repeat (first | (with_reducible first | (refine isE ?_; first | refine x_Lmade_0 hw ?_ | refine x_Lmade_1 hw ?_ | refine x_Lmade_2 hw ?_ | refine x_Lmade_3 hw ?_ | refine x_Lmade_4 hw ?_ | refine x_Lmade_5 hw ?_ | refine x_Lmade_6 hw ?_ | refine x_Lmade_7 hw ?_ | refine w_Lmade_Lnext hw ?_ | refine e_bf hw g_Lmade_len b_len (by decide +kernel) (by decide +kernel) ?_ | refine w_Lmade_Lodd hw ?_ | refine e_bf hw g_Lmade_list b_list (by decide +kernel) (by decide +kernel) ?_ | refine e_none hw ?_ | refine e_bool hw ?_ | refine e_int hw ?_ | refine e_str hw ?_ | refine e_bin hw ?_ | refine e_una hw ?_ | refine e_and hw ?_ | refine e_or hw ?_ | refine e_ife hw ?_ | refine e_cmp hw ?_ | refine e_cmp2 hw ?_ | refine e_sub hw ?_ | refine e_sl hw ?_ | refine e_tup hw ?_ | refine e_lst hw ?_ | refine e_dct hw ?_) | (refine isT ?_; first | refine t_not hw ?_ | refine t_and hw ?_ | refine t_or hw ?_ | refine t_cmp hw ?_ | refine t_cmp2 hw ?_ | refine t_name hw ?_ | refine t_call hw ?_ | refine t_sub hw ?_) | (refine isS ?_; first | refine par_Lmade_6_7 hw ?_ | refine s_ret' hw ?_ | refine s_pass' hw ?_ | refine s_brk' hw ?_ | refine s_cnt' hw ?_ | refine s_exp' hw ?_ | refine s_if' hw ?_ | refine s_put' hw ?_ | refine s_for' hw ?_ (hc := cm_Lmade) | refine y_Lmade_0 hw ?_ | refine y_Lmade_1 hw ?_ | refine y_Lmade_2 hw ?_ | refine y_Lmade_3 hw ?_ | refine y_Lmade_4 hw ?_ | refine y_Lmade_5 hw ?_ | refine y_Lmade_6 hw ?_ | refine y_Lmade_7 hw ?_ | refine s_unp' hw (by kernel_rfl) (by decide +kernel) ?_) | (refine isG ?_; first | refine g_sb hw ?_ (hc := cm_Lmade) | refine g_tp2 hw ?_ (hc := cm_Lmade) | refine z_Lmade_0 hw ?_ | refine z_Lmade_1 hw ?_ | refine z_Lmade_2 hw ?_ | refine z_Lmade_3 hw ?_ | refine z_Lmade_4 hw ?_ | refine z_Lmade_5 hw ?_ | refine z_Lmade_6 hw ?_ | refine z_Lmade_7 hw ?_) | (refine isI ?_; first | refine i_name hw ?_ | refine i_tup' hw ?_ | refine i_lst' hw ?_) | refine e_and1 ?_ | refine e_and2 ?_ | refine e_or1 ?_ | refine e_or2 ?_ | refine o_none ?_ | refine o_some ?_ | refine p_nil ?_ | refine p_cons ?_ | refine a_nil ?_ | refine a_cons ?_ | refine t_and1 ?_ | refine t_and2 ?_ | refine t_or1 ?_ | refine t_or2 ?_ | refine k_bl ?_ | refine k_int ?_ | refine nd_tru ?_ | refine if_t ?_ | refine if_f ?_ | refine b_nil ?_ | refine b_cons ?_ | refine g_nil ?_ | refine g_cons ?_ | refine o_add ?_ | refine o_sub ?_ | refine o_neg ?_ | refine o_nt ?_ | refine c_lt ?_ | refine c_le ?_ | refine c_gt ?_ | refine c_ge ?_ | refine c_eqI ?_ | refine c_eqS ?_ | refine c_neS ?_ | refine c_neI ?_ | refine c_eqB ?_ | refine if_tc (by decide +kernel) ?_ | refine if_fc (by decide +kernel) ?_ | refine ne_c ?_ | refine c_leB1 ?_ | refine c_leB2 ?_ | refine c_neB ?_ | refine c_eqBI ?_ | refine c_isN ?_ | refine c_isNN ?_ | refine c_in2 ?_ | refine c_in3 ?_ | refine c_in4 ?_ | refine c_in5 ?_ | refine c_ni2 ?_ | refine c_ni4 ?_ | refine c_ni5 ?_ | refine c_eqT0 ?_ | refine c_eqT1 ?_ | refine l_tup ?_ | refine l_rol ?_ | refine l_ref (by assumption) ?_ | refine x_d0 (by assumption) ?_ | refine x_d1 (by assumption) ?_ | refine x_d2 (by assumption) ?_ | refine x_d3 (by assumption) ?_ | refine x_d0 tupd_same ?_ | refine x_d1 tupd_same ?_ | refine x_d2 tupd_same ?_ | refine x_d3 tupd_same ?_ | refine d_go4 ?_ | refine r_bl ?_ | refine r_bl4 (by assumption) ?_ | refine r_bl4 tupd_same ?_ | refine m_min ?_ | refine m_max ?_ | refine m_abs ?_ | refine x_t0 ?_ | refine x_t1 ?_ | refine x_t2 ?_) | (refine len_go ?_ ?_; · (simp; done)) | (refine o_mod ?_ ?_; · (first | decide | omega)) | (refine o_pow ⟨by decide, by decide, by decide⟩ ?_) | (refine o_mul (cmul ?_ ?_ ?_ ?_) ?_; (· omega); (· omega); (· omega); (· omega)) | (refine o_div (cdiv ?_ ?_) ?_; (· omega); (· omega)) | (refine if_tc ?_ ?_; · (first | rfl | (simp; done) | (simp; omega))) | (refine if_fc ?_ ?_; · (first | rfl | (simp; done) | (simp; omega))))
  intro p5 n5; generalize hh5 : tupd _ p5 _ = H5; have e5 := tsame hh5; have f5 := frof hh5 n5; clear hh5
  repeat (first | (with_reducible first | (refine isE ?_; first | refine x_Lmade_0 hw ?_ | refine x_Lmade_1 hw ?_ | refine x_Lmade_2 hw ?_ | refine x_Lmade_3 hw ?_ | refine x_Lmade_4 hw ?_ | refine x_Lmade_5 hw ?_ | refine x_Lmade_6 hw ?_ | refine x_Lmade_7 hw ?_ | refine w_Lmade_Lnext hw ?_ | refine e_bf hw g_Lmade_len b_len (by decide +kernel) (by decide +kernel) ?_ | refine w_Lmade_Lodd hw ?_ | refine e_bf hw g_Lmade_list b_list (by decide +kernel) (by decide +kernel) ?_ | refine e_none hw ?_ | refine e_bool hw ?_ | refine e_int hw ?_ | refine e_str hw ?_ | refine e_bin hw ?_ | refine e_una hw ?_ | refine e_and hw ?_ | refine e_or hw ?_ | refine e_ife hw ?_ | refine e_cmp hw ?_ | refine e_cmp2 hw ?_ | refine e_sub hw ?_ | refine e_sl hw ?_ | refine e_tup hw ?_ | refine e_lst hw ?_ | refine e_dct hw ?_) | (refine isT ?_; first | refine t_not hw ?_ | refine t_and hw ?_ | refine t_or hw ?_ | refine t_cmp hw ?_ | refine t_cmp2 hw ?_ | refine t_name hw ?_ | refine t_call hw ?_ | refine t_sub hw ?_) | (refine isS ?_; first | refine par_Lmade_6_7 hw ?_ | refine s_ret' hw ?_ | refine s_pass' hw ?_ | refine s_brk' hw ?_ | refine s_cnt' hw ?_ | refine s_exp' hw ?_ | refine s_if' hw ?_ | refine s_put' hw ?_ | refine s_for' hw ?_ (hc := cm_Lmade) | refine y_Lmade_0 hw ?_ | refine y_Lmade_1 hw ?_ | refine y_Lmade_2 hw ?_ | refine y_Lmade_3 hw ?_ | refine y_Lmade_4 hw ?_ | refine y_Lmade_5 hw ?_ | refine y_Lmade_6 hw ?_ | refine y_Lmade_7 hw ?_ | refine s_unp' hw (by kernel_rfl) (by decide +kernel) ?_) | (refine isG ?_; first | refine g_sb hw ?_ (hc := cm_Lmade) | refine g_tp2 hw ?_ (hc := cm_Lmade) | refine z_Lmade_0 hw ?_ | refine z_Lmade_1 hw ?_ | refine z_Lmade_2 hw ?_ | refine z_Lmade_3 hw ?_ | refine z_Lmade_4 hw ?_ | refine z_Lmade_5 hw ?_ | refine z_Lmade_6 hw ?_ | refine z_Lmade_7 hw ?_) | (refine isI ?_; first | refine i_name hw ?_ | refine i_tup' hw ?_ | refine i_lst' hw ?_) | refine e_and1 ?_ | refine e_and2 ?_ | refine e_or1 ?_ | refine e_or2 ?_ | refine o_none ?_ | refine o_some ?_ | refine p_nil ?_ | refine p_cons ?_ | refine a_nil ?_ | refine a_cons ?_ | refine t_and1 ?_ | refine t_and2 ?_ | refine t_or1 ?_ | refine t_or2 ?_ | refine k_bl ?_ | refine k_int ?_ | refine nd_tru ?_ | refine if_t ?_ | refine if_f ?_ | refine b_nil ?_ | refine b_cons ?_ | refine g_nil ?_ | refine g_cons ?_ | refine o_add ?_ | refine o_sub ?_ | refine o_neg ?_ | refine o_nt ?_ | refine c_lt ?_ | refine c_le ?_ | refine c_gt ?_ | refine c_ge ?_ | refine c_eqI ?_ | refine c_eqS ?_ | refine c_neS ?_ | refine c_neI ?_ | refine c_eqB ?_ | refine if_tc (by decide +kernel) ?_ | refine if_fc (by decide +kernel) ?_ | refine ne_c ?_ | refine c_leB1 ?_ | refine c_leB2 ?_ | refine c_neB ?_ | refine c_eqBI ?_ | refine c_isN ?_ | refine c_isNN ?_ | refine c_in2 ?_ | refine c_in3 ?_ | refine c_in4 ?_ | refine c_in5 ?_ | refine c_ni2 ?_ | refine c_ni4 ?_ | refine c_ni5 ?_ | refine c_eqT0 ?_ | refine c_eqT1 ?_ | refine l_tup ?_ | refine l_rol ?_ | refine l_ref (by assumption) ?_ | refine x_d0 (by assumption) ?_ | refine x_d1 (by assumption) ?_ | refine x_d2 (by assumption) ?_ | refine x_d3 (by assumption) ?_ | refine x_d0 tupd_same ?_ | refine x_d1 tupd_same ?_ | refine x_d2 tupd_same ?_ | refine x_d3 tupd_same ?_ | refine d_go4 ?_ | refine r_bl ?_ | refine r_bl4 (by assumption) ?_ | refine r_bl4 tupd_same ?_ | refine m_min ?_ | refine m_max ?_ | refine m_abs ?_ | refine x_t0 ?_ | refine x_t1 ?_ | refine x_t2 ?_) | (refine len_go ?_ ?_; · (simp; done)) | (refine o_mod ?_ ?_; · (first | decide | omega)) | (refine o_pow ⟨by decide, by decide, by decide⟩ ?_) | (refine o_mul (cmul ?_ ?_ ?_ ?_) ?_; (· omega); (· omega); (· omega); (· omega)) | (refine o_div (cdiv ?_ ?_) ?_; (· omega); (· omega)) | (refine if_tc ?_ ?_; · (first | rfl | (simp; done) | (simp; omega))) | (refine if_fc ?_ ?_; · (first | rfl | (simp; done) | (simp; omega))))
  have hd5 := hd3.fr (f4.trans f5)
  refine u_next hd5 (by omega) (by omega) (by omega) (by omega) fun c H6 a6 b6 hd6 f6 => ?_
  repeat (first | (with_reducible first | (refine isE ?_; first | refine x_Lmade_0 hw ?_ | refine x_Lmade_1 hw ?_ | refine x_Lmade_2 hw ?_ | refine x_Lmade_3 hw ?_ | refine x_Lmade_4 hw ?_ | refine x_Lmade_5 hw ?_ | refine x_Lmade_6 hw ?_ | refine x_Lmade_7 hw ?_ | refine w_Lmade_Lnext hw ?_ | refine e_bf hw g_Lmade_len b_len (by decide +kernel) (by decide +kernel) ?_ | refine w_Lmade_Lodd hw ?_ | refine e_bf hw g_Lmade_list b_list (by decide +kernel) (by decide +kernel) ?_ | refine e_none hw ?_ | refine e_bool hw ?_ | refine e_int hw ?_ | refine e_str hw ?_ | refine e_bin hw ?_ | refine e_una hw ?_ | refine e_and hw ?_ | refine e_or hw ?_ | refine e_ife hw ?_ | refine e_cmp hw ?_ | refine e_cmp2 hw ?_ | refine e_sub hw ?_ | refine e_sl hw ?_ | refine e_tup hw ?_ | refine e_lst hw ?_ | refine e_dct hw ?_) | (refine isT ?_; first | refine t_not hw ?_ | refine t_and hw ?_ | refine t_or hw ?_ | refine t_cmp hw ?_ | refine t_cmp2 hw ?_ | refine t_name hw ?_ | refine t_call hw ?_ | refine t_sub hw ?_) | (refine isS ?_; first | refine par_Lmade_6_7 hw ?_ | refine s_ret' hw ?_ | refine s_pass' hw ?_ | refine s_brk' hw ?_ | refine s_cnt' hw ?_ | refine s_exp' hw ?_ | refine s_if' hw ?_ | refine s_put' hw ?_ | refine s_for' hw ?_ (hc := cm_Lmade) | refine y_Lmade_0 hw ?_ | refine y_Lmade_1 hw ?_ | refine y_Lmade_2 hw ?_ | refine y_Lmade_3 hw ?_ | refine y_Lmade_4 hw ?_ | refine y_Lmade_5 hw ?_ | refine y_Lmade_6 hw ?_ | refine y_Lmade_7 hw ?_ | refine s_unp' hw (by kernel_rfl) (by decide +kernel) ?_) | (refine isG ?_; first | refine g_sb hw ?_ (hc := cm_Lmade) | refine g_tp2 hw ?_ (hc := cm_Lmade) | refine z_Lmade_0 hw ?_ | refine z_Lmade_1 hw ?_ | refine z_Lmade_2 hw ?_ | refine z_Lmade_3 hw ?_ | refine z_Lmade_4 hw ?_ | refine z_Lmade_5 hw ?_ | refine z_Lmade_6 hw ?_ | refine z_Lmade_7 hw ?_) | (refine isI ?_; first | refine i_name hw ?_ | refine i_tup' hw ?_ | refine i_lst' hw ?_) | refine e_and1 ?_ | refine e_and2 ?_ | refine e_or1 ?_ | refine e_or2 ?_ | refine o_none ?_ | refine o_some ?_ | refine p_nil ?_ | refine p_cons ?_ | refine a_nil ?_ | refine a_cons ?_ | refine t_and1 ?_ | refine t_and2 ?_ | refine t_or1 ?_ | refine t_or2 ?_ | refine k_bl ?_ | refine k_int ?_ | refine nd_tru ?_ | refine if_t ?_ | refine if_f ?_ | refine b_nil ?_ | refine b_cons ?_ | refine g_nil ?_ | refine g_cons ?_ | refine o_add ?_ | refine o_sub ?_ | refine o_neg ?_ | refine o_nt ?_ | refine c_lt ?_ | refine c_le ?_ | refine c_gt ?_ | refine c_ge ?_ | refine c_eqI ?_ | refine c_eqS ?_ | refine c_neS ?_ | refine c_neI ?_ | refine c_eqB ?_ | refine if_tc (by decide +kernel) ?_ | refine if_fc (by decide +kernel) ?_ | refine ne_c ?_ | refine c_leB1 ?_ | refine c_leB2 ?_ | refine c_neB ?_ | refine c_eqBI ?_ | refine c_isN ?_ | refine c_isNN ?_ | refine c_in2 ?_ | refine c_in3 ?_ | refine c_in4 ?_ | refine c_in5 ?_ | refine c_ni2 ?_ | refine c_ni4 ?_ | refine c_ni5 ?_ | refine c_eqT0 ?_ | refine c_eqT1 ?_ | refine l_tup ?_ | refine l_rol ?_ | refine l_ref (by assumption) ?_ | refine x_d0 (by assumption) ?_ | refine x_d1 (by assumption) ?_ | refine x_d2 (by assumption) ?_ | refine x_d3 (by assumption) ?_ | refine x_d0 tupd_same ?_ | refine x_d1 tupd_same ?_ | refine x_d2 tupd_same ?_ | refine x_d3 tupd_same ?_ | refine d_go4 ?_ | refine r_bl ?_ | refine r_bl4 (by assumption) ?_ | refine r_bl4 tupd_same ?_ | refine m_min ?_ | refine m_max ?_ | refine m_abs ?_ | refine x_t0 ?_ | refine x_t1 ?_ | refine x_t2 ?_) | (refine len_go ?_ ?_; · (simp; done)) | (refine o_mod ?_ ?_; · (first | decide | omega)) | (refine o_pow ⟨by decide, by decide, by decide⟩ ?_) | (refine o_mul (cmul ?_ ?_ ?_ ?_) ?_; (· omega); (· omega); (· omega); (· omega)) | (refine o_div (cdiv ?_ ?_) ?_; (· omega); (· omega)) | (refine if_tc ?_ ?_; · (first | rfl | (simp; done) | (simp; omega))) | (refine if_fc ?_ ?_; · (first | rfl | (simp; done) | (simp; omega))))
  refine x_at (f6 p4 _ (drw_ne hd3 n4) (f5 _ _ e4)) a6 (by simpa using b6) fun t ht => ?_
  repeat (first | (with_reducible first | (refine isE ?_; first | refine x_Lmade_0 hw ?_ | refine x_Lmade_1 hw ?_ | refine x_Lmade_2 hw ?_ | refine x_Lmade_3 hw ?_ | refine x_Lmade_4 hw ?_ | refine x_Lmade_5 hw ?_ | refine x_Lmade_6 hw ?_ | refine x_Lmade_7 hw ?_ | refine w_Lmade_Lnext hw ?_ | refine e_bf hw g_Lmade_len b_len (by decide +kernel) (by decide +kernel) ?_ | refine w_Lmade_Lodd hw ?_ | refine e_bf hw g_Lmade_list b_list (by decide +kernel) (by decide +kernel) ?_ | refine e_none hw ?_ | refine e_bool hw ?_ | refine e_int hw ?_ | refine e_str hw ?_ | refine e_bin hw ?_ | refine e_una hw ?_ | refine e_and hw ?_ | refine e_or hw ?_ | refine e_ife hw ?_ | refine e_cmp hw ?_ | refine e_cmp2 hw ?_ | refine e_sub hw ?_ | refine e_sl hw ?_ | refine e_tup hw ?_ | refine e_lst hw ?_ | refine e_dct hw ?_) | (refine isT ?_; first | refine t_not hw ?_ | refine t_and hw ?_ | refine t_or hw ?_ | refine t_cmp hw ?_ | refine t_cmp2 hw ?_ | refine t_name hw ?_ | refine t_call hw ?_ | refine t_sub hw ?_) | (refine isS ?_; first | refine par_Lmade_6_7 hw ?_ | refine s_ret' hw ?_ | refine s_pass' hw ?_ | refine s_brk' hw ?_ | refine s_cnt' hw ?_ | refine s_exp' hw ?_ | refine s_if' hw ?_ | refine s_put' hw ?_ | refine s_for' hw ?_ (hc := cm_Lmade) | refine y_Lmade_0 hw ?_ | refine y_Lmade_1 hw ?_ | refine y_Lmade_2 hw ?_ | refine y_Lmade_3 hw ?_ | refine y_Lmade_4 hw ?_ | refine y_Lmade_5 hw ?_ | refine y_Lmade_6 hw ?_ | refine y_Lmade_7 hw ?_ | refine s_unp' hw (by kernel_rfl) (by decide +kernel) ?_) | (refine isG ?_; first | refine g_sb hw ?_ (hc := cm_Lmade) | refine g_tp2 hw ?_ (hc := cm_Lmade) | refine z_Lmade_0 hw ?_ | refine z_Lmade_1 hw ?_ | refine z_Lmade_2 hw ?_ | refine z_Lmade_3 hw ?_ | refine z_Lmade_4 hw ?_ | refine z_Lmade_5 hw ?_ | refine z_Lmade_6 hw ?_ | refine z_Lmade_7 hw ?_) | (refine isI ?_; first | refine i_name hw ?_ | refine i_tup' hw ?_ | refine i_lst' hw ?_) | refine e_and1 ?_ | refine e_and2 ?_ | refine e_or1 ?_ | refine e_or2 ?_ | refine o_none ?_ | refine o_some ?_ | refine p_nil ?_ | refine p_cons ?_ | refine a_nil ?_ | refine a_cons ?_ | refine t_and1 ?_ | refine t_and2 ?_ | refine t_or1 ?_ | refine t_or2 ?_ | refine k_bl ?_ | refine k_int ?_ | refine nd_tru ?_ | refine if_t ?_ | refine if_f ?_ | refine b_nil ?_ | refine b_cons ?_ | refine g_nil ?_ | refine g_cons ?_ | refine o_add ?_ | refine o_sub ?_ | refine o_neg ?_ | refine o_nt ?_ | refine c_lt ?_ | refine c_le ?_ | refine c_gt ?_ | refine c_ge ?_ | refine c_eqI ?_ | refine c_eqS ?_ | refine c_neS ?_ | refine c_neI ?_ | refine c_eqB ?_ | refine if_tc (by decide +kernel) ?_ | refine if_fc (by decide +kernel) ?_ | refine ne_c ?_ | refine c_leB1 ?_ | refine c_leB2 ?_ | refine c_neB ?_ | refine c_eqBI ?_ | refine c_isN ?_ | refine c_isNN ?_ | refine c_in2 ?_ | refine c_in3 ?_ | refine c_in4 ?_ | refine c_in5 ?_ | refine c_ni2 ?_ | refine c_ni4 ?_ | refine c_ni5 ?_ | refine c_eqT0 ?_ | refine c_eqT1 ?_ | refine l_tup ?_ | refine l_rol ?_ | refine l_ref (by assumption) ?_ | refine x_d0 (by assumption) ?_ | refine x_d1 (by assumption) ?_ | refine x_d2 (by assumption) ?_ | refine x_d3 (by assumption) ?_ | refine x_d0 tupd_same ?_ | refine x_d1 tupd_same ?_ | refine x_d2 tupd_same ?_ | refine x_d3 tupd_same ?_ | refine d_go4 ?_ | refine r_bl ?_ | refine r_bl4 (by assumption) ?_ | refine r_bl4 tupd_same ?_ | refine m_min ?_ | refine m_max ?_ | refine m_abs ?_ | refine x_t0 ?_ | refine x_t1 ?_ | refine x_t2 ?_) | (refine len_go ?_ ?_; · (simp; done)) | (refine o_mod ?_ ?_; · (first | decide | omega)) | (refine o_pow ⟨by decide, by decide, by decide⟩ ?_) | (refine o_mul (cmul ?_ ?_ ?_ ?_) ?_; (· omega); (· omega); (· omega); (· omega)) | (refine o_div (cdiv ?_ ?_) ?_; (· omega); (· omega)) | (refine if_tc ?_ ?_; · (first | rfl | (simp; done) | (simp; omega))) | (refine if_fc ?_ ?_; · (first | rfl | (simp; done) | (simp; omega))))
  intro p7 n7; generalize hh7 : tupd _ p7 _ = H7; have e7 := tsame hh7; have f7 := frof hh7 n7; clear hh7
  have e57 := f7 _ _ (f6 p5 _ (drw_ne (hd3.fr f4) n5) e5)
  repeat (first | (with_reducible first | (refine isE ?_; first | refine x_Lmade_0 hw ?_ | refine x_Lmade_1 hw ?_ | refine x_Lmade_2 hw ?_ | refine x_Lmade_3 hw ?_ | refine x_Lmade_4 hw ?_ | refine x_Lmade_5 hw ?_ | refine x_Lmade_6 hw ?_ | refine x_Lmade_7 hw ?_ | refine w_Lmade_Lnext hw ?_ | refine e_bf hw g_Lmade_len b_len (by decide +kernel) (by decide +kernel) ?_ | refine w_Lmade_Lodd hw ?_ | refine e_bf hw g_Lmade_list b_list (by decide +kernel) (by decide +kernel) ?_ | refine e_none hw ?_ | refine e_bool hw ?_ | refine e_int hw ?_ | refine e_str hw ?_ | refine e_bin hw ?_ | refine e_una hw ?_ | refine e_and hw ?_ | refine e_or hw ?_ | refine e_ife hw ?_ | refine e_cmp hw ?_ | refine e_cmp2 hw ?_ | refine e_sub hw ?_ | refine e_sl hw ?_ | refine e_tup hw ?_ | refine e_lst hw ?_ | refine e_dct hw ?_) | (refine isT ?_; first | refine t_not hw ?_ | refine t_and hw ?_ | refine t_or hw ?_ | refine t_cmp hw ?_ | refine t_cmp2 hw ?_ | refine t_name hw ?_ | refine t_call hw ?_ | refine t_sub hw ?_) | (refine isS ?_; first | refine par_Lmade_6_7 hw ?_ | refine s_ret' hw ?_ | refine s_pass' hw ?_ | refine s_brk' hw ?_ | refine s_cnt' hw ?_ | refine s_exp' hw ?_ | refine s_if' hw ?_ | refine s_put' hw ?_ | refine s_for' hw ?_ (hc := cm_Lmade) | refine y_Lmade_0 hw ?_ | refine y_Lmade_1 hw ?_ | refine y_Lmade_2 hw ?_ | refine y_Lmade_3 hw ?_ | refine y_Lmade_4 hw ?_ | refine y_Lmade_5 hw ?_ | refine y_Lmade_6 hw ?_ | refine y_Lmade_7 hw ?_ | refine s_unp' hw (by kernel_rfl) (by decide +kernel) ?_) | (refine isG ?_; first | refine g_sb hw ?_ (hc := cm_Lmade) | refine g_tp2 hw ?_ (hc := cm_Lmade) | refine z_Lmade_0 hw ?_ | refine z_Lmade_1 hw ?_ | refine z_Lmade_2 hw ?_ | refine z_Lmade_3 hw ?_ | refine z_Lmade_4 hw ?_ | refine z_Lmade_5 hw ?_ | refine z_Lmade_6 hw ?_ | refine z_Lmade_7 hw ?_) | (refine isI ?_; first | refine i_name hw ?_ | refine i_tup' hw ?_ | refine i_lst' hw ?_) | refine e_and1 ?_ | refine e_and2 ?_ | refine e_or1 ?_ | refine e_or2 ?_ | refine o_none ?_ | refine o_some ?_ | refine p_nil ?_ | refine p_cons ?_ | refine a_nil ?_ | refine a_cons ?_ | refine t_and1 ?_ | refine t_and2 ?_ | refine t_or1 ?_ | refine t_or2 ?_ | refine k_bl ?_ | refine k_int ?_ | refine nd_tru ?_ | refine if_t ?_ | refine if_f ?_ | refine b_nil ?_ | refine b_cons ?_ | refine g_nil ?_ | refine g_cons ?_ | refine o_add ?_ | refine o_sub ?_ | refine o_neg ?_ | refine o_nt ?_ | refine c_lt ?_ | refine c_le ?_ | refine c_gt ?_ | refine c_ge ?_ | refine c_eqI ?_ | refine c_eqS ?_ | refine c_neS ?_ | refine c_neI ?_ | refine c_eqB ?_ | refine if_tc (by decide +kernel) ?_ | refine if_fc (by decide +kernel) ?_ | refine ne_c ?_ | refine c_leB1 ?_ | refine c_leB2 ?_ | refine c_neB ?_ | refine c_eqBI ?_ | refine c_isN ?_ | refine c_isNN ?_ | refine c_in2 ?_ | refine c_in3 ?_ | refine c_in4 ?_ | refine c_in5 ?_ | refine c_ni2 ?_ | refine c_ni4 ?_ | refine c_ni5 ?_ | refine c_eqT0 ?_ | refine c_eqT1 ?_ | refine l_tup ?_ | refine l_rol ?_ | refine l_ref (by assumption) ?_ | refine x_d0 (by assumption) ?_ | refine x_d1 (by assumption) ?_ | refine x_d2 (by assumption) ?_ | refine x_d3 (by assumption) ?_ | refine x_d0 tupd_same ?_ | refine x_d1 tupd_same ?_ | refine x_d2 tupd_same ?_ | refine x_d3 tupd_same ?_ | refine d_go4 ?_ | refine r_bl ?_ | refine r_bl4 (by assumption) ?_ | refine r_bl4 tupd_same ?_ | refine m_min ?_ | refine m_max ?_ | refine m_abs ?_ | refine x_t0 ?_ | refine x_t1 ?_ | refine x_t2 ?_) | (refine len_go ?_ ?_; · (simp; done)) | (refine o_mod ?_ ?_; · (first | decide | omega)) | (refine o_pow ⟨by decide, by decide, by decide⟩ ?_) | (refine o_mul (cmul ?_ ?_ ?_ ?_) ?_; (· omega); (· omega); (· omega); (· omega)) | (refine o_div (cdiv ?_ ?_) ?_; (· omega); (· omega)) | (refine if_tc ?_ ?_; · (first | rfl | (simp; done) | (simp; omega))) | (refine if_fc ?_ ?_; · (first | rfl | (simp; done) | (simp; omega))))
  refine u_next (hd6.fr f7) (by omega) (by omega) (by omega) (by omega) fun c2 H8 a8 b8 hd8 f8 => ?_
  repeat (first | (with_reducible first | (refine isE ?_; first | refine x_Lmade_0 hw ?_ | refine x_Lmade_1 hw ?_ | refine x_Lmade_2 hw ?_ | refine x_Lmade_3 hw ?_ | refine x_Lmade_4 hw ?_ | refine x_Lmade_5 hw ?_ | refine x_Lmade_6 hw ?_ | refine x_Lmade_7 hw ?_ | refine w_Lmade_Lnext hw ?_ | refine e_bf hw g_Lmade_len b_len (by decide +kernel) (by decide +kernel) ?_ | refine w_Lmade_Lodd hw ?_ | refine e_bf hw g_Lmade_list b_list (by decide +kernel) (by decide +kernel) ?_ | refine e_none hw ?_ | refine e_bool hw ?_ | refine e_int hw ?_ | refine e_str hw ?_ | refine e_bin hw ?_ | refine e_una hw ?_ | refine e_and hw ?_ | refine e_or hw ?_ | refine e_ife hw ?_ | refine e_cmp hw ?_ | refine e_cmp2 hw ?_ | refine e_sub hw ?_ | refine e_sl hw ?_ | refine e_tup hw ?_ | refine e_lst hw ?_ | refine e_dct hw ?_) | (refine isT ?_; first | refine t_not hw ?_ | refine t_and hw ?_ | refine t_or hw ?_ | refine t_cmp hw ?_ | refine t_cmp2 hw ?_ | refine t_name hw ?_ | refine t_call hw ?_ | refine t_sub hw ?_) | (refine isS ?_; first | refine par_Lmade_6_7 hw ?_ | refine s_ret' hw ?_ | refine s_pass' hw ?_ | refine s_brk' hw ?_ | refine s_cnt' hw ?_ | refine s_exp' hw ?_ | refine s_if' hw ?_ | refine s_put' hw ?_ | refine s_for' hw ?_ (hc := cm_Lmade) | refine y_Lmade_0 hw ?_ | refine y_Lmade_1 hw ?_ | refine y_Lmade_2 hw ?_ | refine y_Lmade_3 hw ?_ | refine y_Lmade_4 hw ?_ | refine y_Lmade_5 hw ?_ | refine y_Lmade_6 hw ?_ | refine y_Lmade_7 hw ?_ | refine s_unp' hw (by kernel_rfl) (by decide +kernel) ?_) | (refine isG ?_; first | refine g_sb hw ?_ (hc := cm_Lmade) | refine g_tp2 hw ?_ (hc := cm_Lmade) | refine z_Lmade_0 hw ?_ | refine z_Lmade_1 hw ?_ | refine z_Lmade_2 hw ?_ | refine z_Lmade_3 hw ?_ | refine z_Lmade_4 hw ?_ | refine z_Lmade_5 hw ?_ | refine z_Lmade_6 hw ?_ | refine z_Lmade_7 hw ?_) | (refine isI ?_; first | refine i_name hw ?_ | refine i_tup' hw ?_ | refine i_lst' hw ?_) | refine e_and1 ?_ | refine e_and2 ?_ | refine e_or1 ?_ | refine e_or2 ?_ | refine o_none ?_ | refine o_some ?_ | refine p_nil ?_ | refine p_cons ?_ | refine a_nil ?_ | refine a_cons ?_ | refine t_and1 ?_ | refine t_and2 ?_ | refine t_or1 ?_ | refine t_or2 ?_ | refine k_bl ?_ | refine k_int ?_ | refine nd_tru ?_ | refine if_t ?_ | refine if_f ?_ | refine b_nil ?_ | refine b_cons ?_ | refine g_nil ?_ | refine g_cons ?_ | refine o_add ?_ | refine o_sub ?_ | refine o_neg ?_ | refine o_nt ?_ | refine c_lt ?_ | refine c_le ?_ | refine c_gt ?_ | refine c_ge ?_ | refine c_eqI ?_ | refine c_eqS ?_ | refine c_neS ?_ | refine c_neI ?_ | refine c_eqB ?_ | refine if_tc (by decide +kernel) ?_ | refine if_fc (by decide +kernel) ?_ | refine ne_c ?_ | refine c_leB1 ?_ | refine c_leB2 ?_ | refine c_neB ?_ | refine c_eqBI ?_ | refine c_isN ?_ | refine c_isNN ?_ | refine c_in2 ?_ | refine c_in3 ?_ | refine c_in4 ?_ | refine c_in5 ?_ | refine c_ni2 ?_ | refine c_ni4 ?_ | refine c_ni5 ?_ | refine c_eqT0 ?_ | refine c_eqT1 ?_ | refine l_tup ?_ | refine l_rol ?_ | refine l_ref (by assumption) ?_ | refine x_d0 (by assumption) ?_ | refine x_d1 (by assumption) ?_ | refine x_d2 (by assumption) ?_ | refine x_d3 (by assumption) ?_ | refine x_d0 tupd_same ?_ | refine x_d1 tupd_same ?_ | refine x_d2 tupd_same ?_ | refine x_d3 tupd_same ?_ | refine d_go4 ?_ | refine r_bl ?_ | refine r_bl4 (by assumption) ?_ | refine r_bl4 tupd_same ?_ | refine m_min ?_ | refine m_max ?_ | refine m_abs ?_ | refine x_t0 ?_ | refine x_t1 ?_ | refine x_t2 ?_) | (refine len_go ?_ ?_; · (simp; done)) | (refine o_mod ?_ ?_; · (first | decide | omega)) | (refine o_pow ⟨by decide, by decide, by decide⟩ ?_) | (refine o_mul (cmul ?_ ?_ ?_ ?_) ?_; (· omega); (· omega); (· omega); (· omega)) | (refine o_div (cdiv ?_ ?_) ?_; (· omega); (· omega)) | (refine if_tc ?_ ?_; · (first | rfl | (simp; done) | (simp; omega))) | (refine if_fc ?_ ?_; · (first | rfl | (simp; done) | (simp; omega))))
  refine x_at (f8 p5 _ (drw_ne (hd3.fr f4) n5) e57) a8 (by simpa using b8) fun o ho => ?_
  repeat (first | (with_reducible first | (refine isE ?_; first | refine x_Lmade_0 hw ?_ | refine x_Lmade_1 hw ?_ | refine x_Lmade_2 hw ?_ | refine x_Lmade_3 hw ?_ | refine x_Lmade_4 hw ?_ | refine x_Lmade_5 hw ?_ | refine x_Lmade_6 hw ?_ | refine x_Lmade_7 hw ?_ | refine w_Lmade_Lnext hw ?_ | refine e_bf hw g_Lmade_len b_len (by decide +kernel) (by decide +kernel) ?_ | refine w_Lmade_Lodd hw ?_ | refine e_bf hw g_Lmade_list b_list (by decide +kernel) (by decide +kernel) ?_ | refine e_none hw ?_ | refine e_bool hw ?_ | refine e_int hw ?_ | refine e_str hw ?_ | refine e_bin hw ?_ | refine e_una hw ?_ | refine e_and hw ?_ | refine e_or hw ?_ | refine e_ife hw ?_ | refine e_cmp hw ?_ | refine e_cmp2 hw ?_ | refine e_sub hw ?_ | refine e_sl hw ?_ | refine e_tup hw ?_ | refine e_lst hw ?_ | refine e_dct hw ?_) | (refine isT ?_; first | refine t_not hw ?_ | refine t_and hw ?_ | refine t_or hw ?_ | refine t_cmp hw ?_ | refine t_cmp2 hw ?_ | refine t_name hw ?_ | refine t_call hw ?_ | refine t_sub hw ?_) | (refine isS ?_; first | refine par_Lmade_6_7 hw ?_ | refine s_ret' hw ?_ | refine s_pass' hw ?_ | refine s_brk' hw ?_ | refine s_cnt' hw ?_ | refine s_exp' hw ?_ | refine s_if' hw ?_ | refine s_put' hw ?_ | refine s_for' hw ?_ (hc := cm_Lmade) | refine y_Lmade_0 hw ?_ | refine y_Lmade_1 hw ?_ | refine y_Lmade_2 hw ?_ | refine y_Lmade_3 hw ?_ | refine y_Lmade_4 hw ?_ | refine y_Lmade_5 hw ?_ | refine y_Lmade_6 hw ?_ | refine y_Lmade_7 hw ?_ | refine s_unp' hw (by kernel_rfl) (by decide +kernel) ?_) | (refine isG ?_; first | refine g_sb hw ?_ (hc := cm_Lmade) | refine g_tp2 hw ?_ (hc := cm_Lmade) | refine z_Lmade_0 hw ?_ | refine z_Lmade_1 hw ?_ | refine z_Lmade_2 hw ?_ | refine z_Lmade_3 hw ?_ | refine z_Lmade_4 hw ?_ | refine z_Lmade_5 hw ?_ | refine z_Lmade_6 hw ?_ | refine z_Lmade_7 hw ?_) | (refine isI ?_; first | refine i_name hw ?_ | refine i_tup' hw ?_ | refine i_lst' hw ?_) | refine e_and1 ?_ | refine e_and2 ?_ | refine e_or1 ?_ | refine e_or2 ?_ | refine o_none ?_ | refine o_some ?_ | refine p_nil ?_ | refine p_cons ?_ | refine a_nil ?_ | refine a_cons ?_ | refine t_and1 ?_ | refine t_and2 ?_ | refine t_or1 ?_ | refine t_or2 ?_ | refine k_bl ?_ | refine k_int ?_ | refine nd_tru ?_ | refine if_t ?_ | refine if_f ?_ | refine b_nil ?_ | refine b_cons ?_ | refine g_nil ?_ | refine g_cons ?_ | refine o_add ?_ | refine o_sub ?_ | refine o_neg ?_ | refine o_nt ?_ | refine c_lt ?_ | refine c_le ?_ | refine c_gt ?_ | refine c_ge ?_ | refine c_eqI ?_ | refine c_eqS ?_ | refine c_neS ?_ | refine c_neI ?_ | refine c_eqB ?_ | refine if_tc (by decide +kernel) ?_ | refine if_fc (by decide +kernel) ?_ | refine ne_c ?_ | refine c_leB1 ?_ | refine c_leB2 ?_ | refine c_neB ?_ | refine c_eqBI ?_ | refine c_isN ?_ | refine c_isNN ?_ | refine c_in2 ?_ | refine c_in3 ?_ | refine c_in4 ?_ | refine c_in5 ?_ | refine c_ni2 ?_ | refine c_ni4 ?_ | refine c_ni5 ?_ | refine c_eqT0 ?_ | refine c_eqT1 ?_ | refine l_tup ?_ | refine l_rol ?_ | refine l_ref (by assumption) ?_ | refine x_d0 (by assumption) ?_ | refine x_d1 (by assumption) ?_ | refine x_d2 (by assumption) ?_ | refine x_d3 (by assumption) ?_ | refine x_d0 tupd_same ?_ | refine x_d1 tupd_same ?_ | refine x_d2 tupd_same ?_ | refine x_d3 tupd_same ?_ | refine d_go4 ?_ | refine r_bl ?_ | refine r_bl4 (by assumption) ?_ | refine r_bl4 tupd_same ?_ | refine m_min ?_ | refine m_max ?_ | refine m_abs ?_ | refine x_t0 ?_ | refine x_t1 ?_ | refine x_t2 ?_) | (refine len_go ?_ ?_; · (simp; done)) | (refine o_mod ?_ ?_; · (first | decide | omega)) | (refine o_pow ⟨by decide, by decide, by decide⟩ ?_) | (refine o_mul (cmul ?_ ?_ ?_ ?_) ?_; (· omega); (· omega); (· omega); (· omega)) | (refine o_div (cdiv ?_ ?_) ?_; (· omega); (· omega)) | (refine if_tc ?_ ?_; · (first | rfl | (simp; done) | (simp; omega))) | (refine if_fc ?_ ?_; · (first | rfl | (simp; done) | (simp; omega))))
  intro p9 n9; generalize hh9 : tupd _ p9 _ = H9; have e9 := tsame hh9; have f9 := frof hh9 n9; clear hh9
  repeat (first | (with_reducible first | (refine isE ?_; first | refine x_Lmade_0 hw ?_ | refine x_Lmade_1 hw ?_ | refine x_Lmade_2 hw ?_ | refine x_Lmade_3 hw ?_ | refine x_Lmade_4 hw ?_ | refine x_Lmade_5 hw ?_ | refine x_Lmade_6 hw ?_ | refine x_Lmade_7 hw ?_ | refine w_Lmade_Lnext hw ?_ | refine e_bf hw g_Lmade_len b_len (by decide +kernel) (by decide +kernel) ?_ | refine w_Lmade_Lodd hw ?_ | refine e_bf hw g_Lmade_list b_list (by decide +kernel) (by decide +kernel) ?_ | refine e_none hw ?_ | refine e_bool hw ?_ | refine e_int hw ?_ | refine e_str hw ?_ | refine e_bin hw ?_ | refine e_una hw ?_ | refine e_and hw ?_ | refine e_or hw ?_ | refine e_ife hw ?_ | refine e_cmp hw ?_ | refine e_cmp2 hw ?_ | refine e_sub hw ?_ | refine e_sl hw ?_ | refine e_tup hw ?_ | refine e_lst hw ?_ | refine e_dct hw ?_) | (refine isT ?_; first | refine t_not hw ?_ | refine t_and hw ?_ | refine t_or hw ?_ | refine t_cmp hw ?_ | refine t_cmp2 hw ?_ | refine t_name hw ?_ | refine t_call hw ?_ | refine t_sub hw ?_) | (refine isS ?_; first | refine par_Lmade_6_7 hw ?_ | refine s_ret' hw ?_ | refine s_pass' hw ?_ | refine s_brk' hw ?_ | refine s_cnt' hw ?_ | refine s_exp' hw ?_ | refine s_if' hw ?_ | refine s_put' hw ?_ | refine s_for' hw ?_ (hc := cm_Lmade) | refine y_Lmade_0 hw ?_ | refine y_Lmade_1 hw ?_ | refine y_Lmade_2 hw ?_ | refine y_Lmade_3 hw ?_ | refine y_Lmade_4 hw ?_ | refine y_Lmade_5 hw ?_ | refine y_Lmade_6 hw ?_ | refine y_Lmade_7 hw ?_ | refine s_unp' hw (by kernel_rfl) (by decide +kernel) ?_) | (refine isG ?_; first | refine g_sb hw ?_ (hc := cm_Lmade) | refine g_tp2 hw ?_ (hc := cm_Lmade) | refine z_Lmade_0 hw ?_ | refine z_Lmade_1 hw ?_ | refine z_Lmade_2 hw ?_ | refine z_Lmade_3 hw ?_ | refine z_Lmade_4 hw ?_ | refine z_Lmade_5 hw ?_ | refine z_Lmade_6 hw ?_ | refine z_Lmade_7 hw ?_) | (refine isI ?_; first | refine i_name hw ?_ | refine i_tup' hw ?_ | refine i_lst' hw ?_) | refine e_and1 ?_ | refine e_and2 ?_ | refine e_or1 ?_ | refine e_or2 ?_ | refine o_none ?_ | refine o_some ?_ | refine p_nil ?_ | refine p_cons ?_ | refine a_nil ?_ | refine a_cons ?_ | refine t_and1 ?_ | refine t_and2 ?_ | refine t_or1 ?_ | refine t_or2 ?_ | refine k_bl ?_ | refine k_int ?_ | refine nd_tru ?_ | refine if_t ?_ | refine if_f ?_ | refine b_nil ?_ | refine b_cons ?_ | refine g_nil ?_ | refine g_cons ?_ | refine o_add ?_ | refine o_sub ?_ | refine o_neg ?_ | refine o_nt ?_ | refine c_lt ?_ | refine c_le ?_ | refine c_gt ?_ | refine c_ge ?_ | refine c_eqI ?_ | refine c_eqS ?_ | refine c_neS ?_ | refine c_neI ?_ | refine c_eqB ?_ | refine if_tc (by decide +kernel) ?_ | refine if_fc (by decide +kernel) ?_ | refine ne_c ?_ | refine c_leB1 ?_ | refine c_leB2 ?_ | refine c_neB ?_ | refine c_eqBI ?_ | refine c_isN ?_ | refine c_isNN ?_ | refine c_in2 ?_ | refine c_in3 ?_ | refine c_in4 ?_ | refine c_in5 ?_ | refine c_ni2 ?_ | refine c_ni4 ?_ | refine c_ni5 ?_ | refine c_eqT0 ?_ | refine c_eqT1 ?_ | refine l_tup ?_ | refine l_rol ?_ | refine l_ref (by assumption) ?_ | refine x_d0 (by assumption) ?_ | refine x_d1 (by assumption) ?_ | refine x_d2 (by assumption) ?_ | refine x_d3 (by assumption) ?_ | refine x_d0 tupd_same ?_ | refine x_d1 tupd_same ?_ | refine x_d2 tupd_same ?_ | refine x_d3 tupd_same ?_ | refine d_go4 ?_ | refine r_bl ?_ | refine r_bl4 (by assumption) ?_ | refine r_bl4 tupd_same ?_ | refine m_min ?_ | refine m_max ?_ | refine m_abs ?_ | refine x_t0 ?_ | refine x_t1 ?_ | refine x_t2 ?_) | (refine len_go ?_ ?_; · (simp; done)) | (refine o_mod ?_ ?_; · (first | decide | omega)) | (refine o_pow ⟨by decide, by decide, by decide⟩ ?_) | (refine o_mul (cmul ?_ ?_ ?_ ?_) ?_; (· omega); (· omega); (· omega); (· omega)) | (refine o_div (cdiv ?_ ?_) ?_; (· omega); (· omega)) | (refine if_tc ?_ ?_; · (first | rfl | (simp; done) | (simp; omega))) | (refine if_fc ?_ ?_; · (first | rfl | (simp; done) | (simp; omega))))
  have e79 := f9 _ _ (f8 p7 _ (drw_ne hd6 n7) e7)
  refine o_ladd e79 e9 (by simp) ?_
  intro p10 n10; generalize hh10 : tupd _ p10 _ = H10; have e10 := tsame hh10; have f10 := frof hh10 n10; clear hh10
  repeat (first | (with_reducible first | (refine isE ?_; first | refine x_Lmade_0 hw ?_ | refine x_Lmade_1 hw ?_ | refine x_Lmade_2 hw ?_ | refine x_Lmade_3 hw ?_ | refine x_Lmade_4 hw ?_ | refine x_Lmade_5 hw ?_ | refine x_Lmade_6 hw ?_ | refine x_Lmade_7 hw ?_ | refine w_Lmade_Lnext hw ?_ | refine e_bf hw g_Lmade_len b_len (by decide +kernel) (by decide +kernel) ?_ | refine w_Lmade_Lodd hw ?_ | refine e_bf hw g_Lmade_list b_list (by decide +kernel) (by decide +kernel) ?_ | refine e_none hw ?_ | refine e_bool hw ?_ | refine e_int hw ?_ | refine e_str hw ?_ | refine e_bin hw ?_ | refine e_una hw ?_ | refine e_and hw ?_ | refine e_or hw ?_ | refine e_ife hw ?_ | refine e_cmp hw ?_ | refine e_cmp2 hw ?_ | refine e_sub hw ?_ | refine e_sl hw ?_ | refine e_tup hw ?_ | refine e_lst hw ?_ | refine e_dct hw ?_) | (refine isT ?_; first | refine t_not hw ?_ | refine t_and hw ?_ | refine t_or hw ?_ | refine t_cmp hw ?_ | refine t_cmp2 hw ?_ | refine t_name hw ?_ | refine t_call hw ?_ | refine t_sub hw ?_) | (refine isS ?_; first | refine par_Lmade_6_7 hw ?_ | refine s_ret' hw ?_ | refine s_pass' hw ?_ | refine s_brk' hw ?_ | refine s_cnt' hw ?_ | refine s_exp' hw ?_ | refine s_if' hw ?_ | refine s_put' hw ?_ | refine s_for' hw ?_ (hc := cm_Lmade) | refine y_Lmade_0 hw ?_ | refine y_Lmade_1 hw ?_ | refine y_Lmade_2 hw ?_ | refine y_Lmade_3 hw ?_ | refine y_Lmade_4 hw ?_ | refine y_Lmade_5 hw ?_ | refine y_Lmade_6 hw ?_ | refine y_Lmade_7 hw ?_ | refine s_unp' hw (by kernel_rfl) (by decide +kernel) ?_) | (refine isG ?_; first | refine g_sb hw ?_ (hc := cm_Lmade) | refine g_tp2 hw ?_ (hc := cm_Lmade) | refine z_Lmade_0 hw ?_ | refine z_Lmade_1 hw ?_ | refine z_Lmade_2 hw ?_ | refine z_Lmade_3 hw ?_ | refine z_Lmade_4 hw ?_ | refine z_Lmade_5 hw ?_ | refine z_Lmade_6 hw ?_ | refine z_Lmade_7 hw ?_) | (refine isI ?_; first | refine i_name hw ?_ | refine i_tup' hw ?_ | refine i_lst' hw ?_) | refine e_and1 ?_ | refine e_and2 ?_ | refine e_or1 ?_ | refine e_or2 ?_ | refine o_none ?_ | refine o_some ?_ | refine p_nil ?_ | refine p_cons ?_ | refine a_nil ?_ | refine a_cons ?_ | refine t_and1 ?_ | refine t_and2 ?_ | refine t_or1 ?_ | refine t_or2 ?_ | refine k_bl ?_ | refine k_int ?_ | refine nd_tru ?_ | refine if_t ?_ | refine if_f ?_ | refine b_nil ?_ | refine b_cons ?_ | refine g_nil ?_ | refine g_cons ?_ | refine o_add ?_ | refine o_sub ?_ | refine o_neg ?_ | refine o_nt ?_ | refine c_lt ?_ | refine c_le ?_ | refine c_gt ?_ | refine c_ge ?_ | refine c_eqI ?_ | refine c_eqS ?_ | refine c_neS ?_ | refine c_neI ?_ | refine c_eqB ?_ | refine if_tc (by decide +kernel) ?_ | refine if_fc (by decide +kernel) ?_ | refine ne_c ?_ | refine c_leB1 ?_ | refine c_leB2 ?_ | refine c_neB ?_ | refine c_eqBI ?_ | refine c_isN ?_ | refine c_isNN ?_ | refine c_in2 ?_ | refine c_in3 ?_ | refine c_in4 ?_ | refine c_in5 ?_ | refine c_ni2 ?_ | refine c_ni4 ?_ | refine c_ni5 ?_ | refine c_eqT0 ?_ | refine c_eqT1 ?_ | refine l_tup ?_ | refine l_rol ?_ | refine l_ref (by assumption) ?_ | refine x_d0 (by assumption) ?_ | refine x_d1 (by assumption) ?_ | refine x_d2 (by assumption) ?_ | refine x_d3 (by assumption) ?_ | refine x_d0 tupd_same ?_ | refine x_d1 tupd_same ?_ | refine x_d2 tupd_same ?_ | refine x_d3 tupd_same ?_ | refine d_go4 ?_ | refine r_bl ?_ | refine r_bl4 (by assumption) ?_ | refine r_bl4 tupd_same ?_ | refine m_min ?_ | refine m_max ?_ | refine m_abs ?_ | refine x_t0 ?_ | refine x_t1 ?_ | refine x_t2 ?_) | (refine len_go ?_ ?_; · (simp; done)) | (refine o_mod ?_ ?_; · (first | decide | omega)) | (refine o_pow ⟨by decide, by decide, by decide⟩ ?_) | (refine o_mul (cmul ?_ ?_ ?_ ?_) ?_; (· omega); (· omega); (· omega); (· omega)) | (refine o_div (cdiv ?_ ?_) ?_; (· omega); (· omega)) | (refine if_tc ?_ ?_; · (first | rfl | (simp; done) | (simp; omega))) | (refine if_fc ?_ ?_; · (first | rfl | (simp; done) | (simp; omega))))
  have hd10 := hd8.fr (f9.trans f10)
  refine u_next hd10 (by omega) (by omega) (by omega) (by omega) fun c3 H11 a11 b11 hd11 f11 => ?_
  repeat (first | (with_reducible first | (refine isE ?_; first | refine x_Lmade_0 hw ?_ | refine x_Lmade_1 hw ?_ | refine x_Lmade_2 hw ?_ | refine x_Lmade_3 hw ?_ | refine x_Lmade_4 hw ?_ | refine x_Lmade_5 hw ?_ | refine x_Lmade_6 hw ?_ | refine x_Lmade_7 hw ?_ | refine w_Lmade_Lnext hw ?_ | refine e_bf hw g_Lmade_len b_len (by decide +kernel) (by decide +kernel) ?_ | refine w_Lmade_Lodd hw ?_ | refine e_bf hw g_Lmade_list b_list (by decide +kernel) (by decide +kernel) ?_ | refine e_none hw ?_ | refine e_bool hw ?_ | refine e_int hw ?_ | refine e_str hw ?_ | refine e_bin hw ?_ | refine e_una hw ?_ | refine e_and hw ?_ | refine e_or hw ?_ | refine e_ife hw ?_ | refine e_cmp hw ?_ | refine e_cmp2 hw ?_ | refine e_sub hw ?_ | refine e_sl hw ?_ | refine e_tup hw ?_ | refine e_lst hw ?_ | refine e_dct hw ?_) | (refine isT ?_; first | refine t_not hw ?_ | refine t_and hw ?_ | refine t_or hw ?_ | refine t_cmp hw ?_ | refine t_cmp2 hw ?_ | refine t_name hw ?_ | refine t_call hw ?_ | refine t_sub hw ?_) | (refine isS ?_; first | refine par_Lmade_6_7 hw ?_ | refine s_ret' hw ?_ | refine s_pass' hw ?_ | refine s_brk' hw ?_ | refine s_cnt' hw ?_ | refine s_exp' hw ?_ | refine s_if' hw ?_ | refine s_put' hw ?_ | refine s_for' hw ?_ (hc := cm_Lmade) | refine y_Lmade_0 hw ?_ | refine y_Lmade_1 hw ?_ | refine y_Lmade_2 hw ?_ | refine y_Lmade_3 hw ?_ | refine y_Lmade_4 hw ?_ | refine y_Lmade_5 hw ?_ | refine y_Lmade_6 hw ?_ | refine y_Lmade_7 hw ?_ | refine s_unp' hw (by kernel_rfl) (by decide +kernel) ?_) | (refine isG ?_; first | refine g_sb hw ?_ (hc := cm_Lmade) | refine g_tp2 hw ?_ (hc := cm_Lmade) | refine z_Lmade_0 hw ?_ | refine z_Lmade_1 hw ?_ | refine z_Lmade_2 hw ?_ | refine z_Lmade_3 hw ?_ | refine z_Lmade_4 hw ?_ | refine z_Lmade_5 hw ?_ | refine z_Lmade_6 hw ?_ | refine z_Lmade_7 hw ?_) | (refine isI ?_; first | refine i_name hw ?_ | refine i_tup' hw ?_ | refine i_lst' hw ?_) | refine e_and1 ?_ | refine e_and2 ?_ | refine e_or1 ?_ | refine e_or2 ?_ | refine o_none ?_ | refine o_some ?_ | refine p_nil ?_ | refine p_cons ?_ | refine a_nil ?_ | refine a_cons ?_ | refine t_and1 ?_ | refine t_and2 ?_ | refine t_or1 ?_ | refine t_or2 ?_ | refine k_bl ?_ | refine k_int ?_ | refine nd_tru ?_ | refine if_t ?_ | refine if_f ?_ | refine b_nil ?_ | refine b_cons ?_ | refine g_nil ?_ | refine g_cons ?_ | refine o_add ?_ | refine o_sub ?_ | refine o_neg ?_ | refine o_nt ?_ | refine c_lt ?_ | refine c_le ?_ | refine c_gt ?_ | refine c_ge ?_ | refine c_eqI ?_ | refine c_eqS ?_ | refine c_neS ?_ | refine c_neI ?_ | refine c_eqB ?_ | refine if_tc (by decide +kernel) ?_ | refine if_fc (by decide +kernel) ?_ | refine ne_c ?_ | refine c_leB1 ?_ | refine c_leB2 ?_ | refine c_neB ?_ | refine c_eqBI ?_ | refine c_isN ?_ | refine c_isNN ?_ | refine c_in2 ?_ | refine c_in3 ?_ | refine c_in4 ?_ | refine c_in5 ?_ | refine c_ni2 ?_ | refine c_ni4 ?_ | refine c_ni5 ?_ | refine c_eqT0 ?_ | refine c_eqT1 ?_ | refine l_tup ?_ | refine l_rol ?_ | refine l_ref (by assumption) ?_ | refine x_d0 (by assumption) ?_ | refine x_d1 (by assumption) ?_ | refine x_d2 (by assumption) ?_ | refine x_d3 (by assumption) ?_ | refine x_d0 tupd_same ?_ | refine x_d1 tupd_same ?_ | refine x_d2 tupd_same ?_ | refine x_d3 tupd_same ?_ | refine d_go4 ?_ | refine r_bl ?_ | refine r_bl4 (by assumption) ?_ | refine r_bl4 tupd_same ?_ | refine m_min ?_ | refine m_max ?_ | refine m_abs ?_ | refine x_t0 ?_ | refine x_t1 ?_ | refine x_t2 ?_) | (refine len_go ?_ ?_; · (simp; done)) | (refine o_mod ?_ ?_; · (first | decide | omega)) | (refine o_pow ⟨by decide, by decide, by decide⟩ ?_) | (refine o_mul (cmul ?_ ?_ ?_ ?_) ?_; (· omega); (· omega); (· omega); (· omega)) | (refine o_div (cdiv ?_ ?_) ?_; (· omega); (· omega)) | (refine if_tc ?_ ?_; · (first | rfl | (simp; done) | (simp; omega))) | (refine if_fc ?_ ?_; · (first | rfl | (simp; done) | (simp; omega))))
  refine x_at (f11 p10 _ (drw_ne (hd8.fr f9) n10) e10) a11 (by simpa using b11) fun z hz => ?_
  have tt : noRef t = true ∧ dpB 2 t = true := by
    have go : ∀ y ∈ ([.tup [.str "even"], .tup [.str "odd"], .tup [.str "over", .int i], .tup [.str "under", .int i]] : List TV), noRef y = true ∧ dpB 2 y = true := by
      repeat (first | exact al_nil | refine al_cons ⟨rfl, rfl⟩ ?_)
    exact go t ht
  have oo : noRef o = true ∧ dpB 2 o = true := by
    have go : ∀ y ∈ ([.str "add", .str "less", .str "least", .str "most"] : List TV), noRef y = true ∧ dpB 2 y = true := by
      repeat (first | exact al_nil | refine al_cons ⟨rfl, rfl⟩ ?_)
    exact go o ho
  have go : ∀ y ∈ ([.tup [.str "all"], .tup [.str "first", .int i], .tup [.str "till", t]] ++ [.tup [.str "fold", o, .int i]] : List TV), ∃ l : List TV, y = .tup l ∧ (∀ x ∈ l, noRef x = true ∧ dpB 2 x = true) ∧ 1 ≤ l.length ∧ l.length ≤ 3 := by
    simp only [List.cons_append, List.nil_append]
    repeat (first | exact al_nil | refine al_cons ⟨_, rfl, (by repeat (first | exact al_nil | refine al_cons (by first | assumption | exact ⟨rfl, rfl⟩) ?_)), (by simp), (by simp)⟩ ?_)
  obtain ⟨l, rfl, hl, l1, l2⟩ := go z hz
  repeat (first | (with_reducible first | (refine isE ?_; first | refine x_Lmade_0 hw ?_ | refine x_Lmade_1 hw ?_ | refine x_Lmade_2 hw ?_ | refine x_Lmade_3 hw ?_ | refine x_Lmade_4 hw ?_ | refine x_Lmade_5 hw ?_ | refine x_Lmade_6 hw ?_ | refine x_Lmade_7 hw ?_ | refine w_Lmade_Lnext hw ?_ | refine e_bf hw g_Lmade_len b_len (by decide +kernel) (by decide +kernel) ?_ | refine w_Lmade_Lodd hw ?_ | refine e_bf hw g_Lmade_list b_list (by decide +kernel) (by decide +kernel) ?_ | refine e_none hw ?_ | refine e_bool hw ?_ | refine e_int hw ?_ | refine e_str hw ?_ | refine e_bin hw ?_ | refine e_una hw ?_ | refine e_and hw ?_ | refine e_or hw ?_ | refine e_ife hw ?_ | refine e_cmp hw ?_ | refine e_cmp2 hw ?_ | refine e_sub hw ?_ | refine e_sl hw ?_ | refine e_tup hw ?_ | refine e_lst hw ?_ | refine e_dct hw ?_) | (refine isT ?_; first | refine t_not hw ?_ | refine t_and hw ?_ | refine t_or hw ?_ | refine t_cmp hw ?_ | refine t_cmp2 hw ?_ | refine t_name hw ?_ | refine t_call hw ?_ | refine t_sub hw ?_) | (refine isS ?_; first | refine par_Lmade_6_7 hw ?_ | refine s_ret' hw ?_ | refine s_pass' hw ?_ | refine s_brk' hw ?_ | refine s_cnt' hw ?_ | refine s_exp' hw ?_ | refine s_if' hw ?_ | refine s_put' hw ?_ | refine s_for' hw ?_ (hc := cm_Lmade) | refine y_Lmade_0 hw ?_ | refine y_Lmade_1 hw ?_ | refine y_Lmade_2 hw ?_ | refine y_Lmade_3 hw ?_ | refine y_Lmade_4 hw ?_ | refine y_Lmade_5 hw ?_ | refine y_Lmade_6 hw ?_ | refine y_Lmade_7 hw ?_ | refine s_unp' hw (by kernel_rfl) (by decide +kernel) ?_) | (refine isG ?_; first | refine g_sb hw ?_ (hc := cm_Lmade) | refine g_tp2 hw ?_ (hc := cm_Lmade) | refine z_Lmade_0 hw ?_ | refine z_Lmade_1 hw ?_ | refine z_Lmade_2 hw ?_ | refine z_Lmade_3 hw ?_ | refine z_Lmade_4 hw ?_ | refine z_Lmade_5 hw ?_ | refine z_Lmade_6 hw ?_ | refine z_Lmade_7 hw ?_) | (refine isI ?_; first | refine i_name hw ?_ | refine i_tup' hw ?_ | refine i_lst' hw ?_) | refine e_and1 ?_ | refine e_and2 ?_ | refine e_or1 ?_ | refine e_or2 ?_ | refine o_none ?_ | refine o_some ?_ | refine p_nil ?_ | refine p_cons ?_ | refine a_nil ?_ | refine a_cons ?_ | refine t_and1 ?_ | refine t_and2 ?_ | refine t_or1 ?_ | refine t_or2 ?_ | refine k_bl ?_ | refine k_int ?_ | refine nd_tru ?_ | refine if_t ?_ | refine if_f ?_ | refine b_nil ?_ | refine g_nil ?_ | refine g_cons ?_ | refine o_add ?_ | refine o_sub ?_ | refine o_neg ?_ | refine o_nt ?_ | refine c_lt ?_ | refine c_le ?_ | refine c_gt ?_ | refine c_ge ?_ | refine c_eqI ?_ | refine c_eqS ?_ | refine c_neS ?_ | refine c_neI ?_ | refine c_eqB ?_ | refine if_tc (by decide +kernel) ?_ | refine if_fc (by decide +kernel) ?_ | refine ne_c ?_ | refine c_leB1 ?_ | refine c_leB2 ?_ | refine c_neB ?_ | refine c_eqBI ?_ | refine c_isN ?_ | refine c_isNN ?_ | refine c_in2 ?_ | refine c_in3 ?_ | refine c_in4 ?_ | refine c_in5 ?_ | refine c_ni2 ?_ | refine c_ni4 ?_ | refine c_ni5 ?_ | refine c_eqT0 ?_ | refine c_eqT1 ?_ | refine l_tup ?_ | refine l_rol ?_ | refine l_ref (by assumption) ?_ | refine x_d0 (by assumption) ?_ | refine x_d1 (by assumption) ?_ | refine x_d2 (by assumption) ?_ | refine x_d3 (by assumption) ?_ | refine x_d0 tupd_same ?_ | refine x_d1 tupd_same ?_ | refine x_d2 tupd_same ?_ | refine x_d3 tupd_same ?_ | refine d_go4 ?_ | refine r_bl ?_ | refine r_bl4 (by assumption) ?_ | refine r_bl4 tupd_same ?_ | refine m_min ?_ | refine m_max ?_ | refine m_abs ?_ | refine x_t0 ?_ | refine x_t1 ?_ | refine x_t2 ?_) | (refine len_go ?_ ?_; · (simp; done)) | (refine o_mod ?_ ?_; · (first | decide | omega)) | (refine o_pow ⟨by decide, by decide, by decide⟩ ?_) | (refine o_mul (cmul ?_ ?_ ?_ ?_) ?_; (· omega); (· omega); (· omega); (· omega)) | (refine o_div (cdiv ?_ ?_) ?_; (· omega); (· omega)) | (refine if_tc ?_ ?_; · (first | rfl | (simp; done) | (simp; omega))) | (refine if_fc ?_ ?_; · (first | rfl | (simp; done) | (simp; omega))))
  have fF := f1.trans (f2.fx.trans (f3.trans ((f4.trans f5).fx.trans (f6.trans (f7.fx.trans (f8.trans ((f9.trans f10).fx.trans f11)))))))
  refine tl_Lmade hw hl l1 l2 hd11 (by omega) (by omega) fun x H' hx hd' f' => h x H' hx (hd'.up (by omega)) (fF.trans f')
theorem u_made {d : Addr} {m : Int} {H : TH} {E : TX} {Q : TQ} (hd : Drw d m H) (h1 : 0 ≤ m) (h2 : m ≤ 1000000) (h : ∀ (x : TV) (H' : TH), Td 3 H' x → Drw d (m + 20) H' → Fx d H H' → Q x H') : sp_Lmade [.ref d] H E Q := ⟨d, m, rfl, hd, h1, h2, h⟩
end K06


set_option Elab.async false
set_option linter.all false
set_option maxRecDepth 100000
set_option maxHeartbeats 4000000
set_option pp.maxSteps 300
namespace K06
open PySem PySem.Spec L2 TL
def spr_Ltwin (n : Nat) : TSp := fun vs H _ Q => ∃ x, vs = [x] ∧ Td n H x ∧ ∀ y H', Tg H' y → Fr H H' → Q y H'
abbrev sp_Ltwin : TSp := spr_Ltwin 3
def G_Ltwin (m : Nat) : GE := gOf [("_law_twin", spr_Ltwin m)] [] []
theorem c_Ltwin_Ltwin {m : Nat} : (G_Ltwin m).fn "_law_twin" = some (spr_Ltwin m) := by kernel_rfl
theorem w_Ltwin_c0_Ltwin {m : Nat} {w : Nat → WP} {n : Nat} {σ : TSt} {H : TH} {E : TX} {Q : TQ} {p pos : Pos} {es : List Expr} (hw : Steps w) (h : argsW ((w n).e S_Ltwin_c0 (G_Ltwin m)) es σ H E fun xs H1 => spr_Ltwin m xs H1 E Q) (hi : noIsi "_law_twin" es = true := by decide +kernel) (hs : noStars es = true := by decide +kernel) : (w (n + 1)).e S_Ltwin_c0 (G_Ltwin m) (.Call (.Name "_law_twin" p) es [] pos) σ H E Q := e_call hw g_Ltwin_c0_Ltwin (by kernel_rfl) hi c_Ltwin_Ltwin hs h
theorem bd_Ltwin {w : Nat → WP} {m : Nat} (hw : Steps w) {v0 : TV} {H : TH} {E : TX} {Q : TQ} (h : spr_Ltwin (m + 1) [v0] H E Q) : blockW ((w 40).s S_Ltwin (G_Ltwin m)) (defBody st_Ltwin) ⟨fun _ H => Q .non H, Q, fun _ _ => False, fun _ _ => False, fun e _ H => E e H⟩ [some v0, none] H := by
  obtain ⟨x, e, hk, h⟩ := h
  cases e
  refine b_cons ?_
  have hk0 := hk.1.kn
  cases v0
  case tup l =>
    repeat (first | (with_reducible first | refine nd_it ?_ | (refine isE ?_; first | refine x_Ltwin_0 hw ?_ | refine x_Ltwin_c0_1 hw ?_ | refine e_bf hw g_Ltwin_tuple b_tuple (by decide +kernel) (by decide +kernel) ?_ | refine e_bf hw g_Ltwin_int b_int (by decide +kernel) (by decide +kernel) ?_ | refine e_none hw ?_ | refine e_bool hw ?_ | refine e_int hw ?_ | refine e_str hw ?_ | refine e_bin hw ?_ | refine e_una hw ?_ | refine e_and hw ?_ | refine e_or hw ?_ | refine e_ife hw ?_ | refine e_cmp hw ?_ | refine e_cmp2 hw ?_ | refine e_sub hw ?_ | refine e_sl hw ?_ | refine e_tup hw ?_ | refine e_lst hw ?_ | refine e_dct hw ?_ | refine e_isi hw g_Ltwin_isinstance g_Ltwin_tuple nm_tuple (by decide) (by decide +kernel) ?_ | refine e_isi hw g_Ltwin_isinstance g_Ltwin_int nm_int (by decide) (by decide +kernel) ?_ | refine lc_Ltwin_0 hw ?_ | refine w_Ltwin_c0_Ltwin hw ?_) | (refine isT ?_; first | refine t_not hw ?_ | refine t_and hw ?_ | refine t_or hw ?_ | refine t_cmp hw ?_ | refine t_cmp2 hw ?_ | refine t_name hw ?_ | refine t_call hw ?_ | refine t_sub hw ?_) | (refine isS ?_; first | refine s_ret' hw ?_ | refine s_pass' hw ?_ | refine s_brk' hw ?_ | refine s_cnt' hw ?_ | refine s_exp' hw ?_ | refine s_if' hw ?_ | refine s_put' hw ?_ | refine s_for' hw ?_ (hc := cm_Ltwin) | refine y_Ltwin_0 hw ?_) | (refine isG ?_; first | refine g_sb hw ?_ (hc := cm_Ltwin) | refine g_tp2 hw ?_ (hc := cm_Ltwin) | refine z_Ltwin_0 hw ?_ | refine z_Ltwin_c0_1 hw ?_ | refine g_tp2 hw ?_ (hc := cm_Ltwin_c0)) | (refine isI ?_; first | refine i_name hw ?_ | refine i_tup' hw ?_ | refine i_lst' hw ?_) | refine e_and1 ?_ | refine e_and2 ?_ | refine e_or1 ?_ | refine e_or2 ?_ | refine o_none ?_ | refine o_some ?_ | refine p_nil ?_ | refine p_cons ?_ | refine a_nil ?_ | refine a_cons ?_ | refine t_and1 ?_ | refine t_and2 ?_ | refine t_or1 ?_ | refine t_or2 ?_ | refine k_bl ?_ | refine k_int ?_ | refine nd_tru ?_ | refine if_t ?_ | refine if_f ?_ | refine b_nil ?_ | refine b_cons ?_ | refine g_nil ?_ | refine g_cons ?_ | refine o_add ?_ | refine o_sub ?_ | refine o_neg ?_ | refine o_nt ?_ | refine c_lt ?_ | refine c_le ?_ | refine c_gt ?_ | refine c_ge ?_ | refine c_eqI ?_ | refine c_eqS ?_ | refine c_neS ?_ | refine c_neI ?_ | refine c_eqB ?_ | refine if_tc (by decide +kernel) ?_ | refine if_fc (by decide +kernel) ?_ | refine ne_c ?_ | refine isi_non_int ?_ | refine isi_non_tuple ?_ | refine isi_bl_int ?_ | refine isi_bl_tuple ?_ | refine isi_int_int ?_ | refine isi_int_tuple ?_ | refine isi_str_int ?_ | refine isi_str_tuple ?_ | refine isi_tup_int ?_ | refine isi_tup_tuple ?_ | refine isi_rol_int ?_ | refine isi_rol_tuple ?_ | refine isi_ref (by assumption) (by decide) ?_ | refine ts1 ?_ | refine ts0 ?_ | refine c_leB1 ?_ | refine c_leB2 ?_ | refine c_neB ?_ | refine c_eqBI ?_ | refine c_isN ?_ | refine c_isNN ?_ | refine c_in2 ?_ | refine c_in3 ?_ | refine c_in4 ?_ | refine c_in5 ?_ | refine c_ni2 ?_ | refine c_ni4 ?_ | refine c_ni5 ?_ | refine c_eqT0 ?_ | refine c_eqT1 ?_ | refine l_tup ?_ | refine l_rol ?_ | refine l_ref (by assumption) ?_ | refine x_d0 (by assumption) ?_ | refine x_d1 (by assumption) ?_ | refine x_d2 (by assumption) ?_ | refine x_d3 (by assumption) ?_ | refine x_d0 tupd_same ?_ | refine x_d1 tupd_same ?_ | refine x_d2 tupd_same ?_ | refine x_d3 tupd_same ?_ | refine d_go4 ?_ | refine r_bl ?_ | refine r_bl4 (by assumption) ?_ | refine r_bl4 tupd_same ?_ | refine m_min ?_ | refine m_max ?_ | refine m_abs ?_ | refine x_t0 ?_ | refine x_t1 ?_ | refine x_t2 ?_) | (refine len_go ?_ ?_; · (simp; done)) | (refine o_mod ?_ ?_; · (first | decide | omega)) | (refine o_pow ⟨by decide, by decide, by decide⟩ ?_) | (refine o_mul (cmul ?_ ?_ ?_ ?_) ?_; (· omega); (· omega); (· omega); (· omega)) | (refine o_div (cdiv ?_ ?_) ?_; (· omega); (· omega)) | (refine if_tc ?_ ?_; · (first | rfl | (simp; done) | (simp; omega))) | (refine if_fc ?_ ?_; · (first | rfl | (simp; done) | (simp; omega))))
    refine lc_all (I := fun acc H' => Fr H H' ∧ ∀ y ∈ acc, Tg H' y) (P := fun x => x ∈ l) (fun x acc H' R hx hi hR => ?_) l [] H (fun _ h => h) ⟨.refl _, al_nil⟩ ?_ (fun acc H1 hl hi => ?_)
    · repeat (first | (with_reducible first | (refine isE ?_; first | refine x_Ltwin_0 hw ?_ | refine x_Ltwin_c0_1 hw ?_ | refine e_bf hw g_Ltwin_tuple b_tuple (by decide +kernel) (by decide +kernel) ?_ | refine e_bf hw g_Ltwin_int b_int (by decide +kernel) (by decide +kernel) ?_ | refine e_none hw ?_ | refine e_bool hw ?_ | refine e_int hw ?_ | refine e_str hw ?_ | refine e_bin hw ?_ | refine e_una hw ?_ | refine e_and hw ?_ | refine e_or hw ?_ | refine e_ife hw ?_ | refine e_cmp hw ?_ | refine e_cmp2 hw ?_ | refine e_sub hw ?_ | refine e_sl hw ?_ | refine e_tup hw ?_ | refine e_lst hw ?_ | refine e_dct hw ?_ | refine e_isi hw g_Ltwin_isinstance g_Ltwin_tuple nm_tuple (by decide) (by decide +kernel) ?_ | refine e_isi hw g_Ltwin_isinstance g_Ltwin_int nm_int (by decide) (by decide +kernel) ?_ | refine lc_Ltwin_0 hw ?_ | refine w_Ltwin_c0_Ltwin hw ?_) | (refine isT ?_; first | refine t_not hw ?_ | refine t_and hw ?_ | refine t_or hw ?_ | refine t_cmp hw ?_ | refine t_cmp2 hw ?_ | refine t_name hw ?_ | refine t_call hw ?_ | refine t_sub hw ?_) | (refine isS ?_; first | refine s_ret' hw ?_ | refine s_pass' hw ?_ | refine s_brk' hw ?_ | refine s_cnt' hw ?_ | refine s_exp' hw ?_ | refine s_if' hw ?_ | refine s_put' hw ?_ | refine s_for' hw ?_ (hc := cm_Ltwin) | refine y_Ltwin_0 hw ?_) | (refine isG ?_; first | refine g_sb hw ?_ (hc := cm_Ltwin) | refine g_tp2 hw ?_ (hc := cm_Ltwin) | refine z_Ltwin_0 hw ?_ | refine z_Ltwin_c0_1 hw ?_ | refine g_tp2 hw ?_ (hc := cm_Ltwin_c0)) | (refine isI ?_; first | refine i_name hw ?_ | refine i_tup' hw ?_ | refine i_lst' hw ?_) | refine e_and1 ?_ | refine e_and2 ?_ | refine e_or1 ?_ | refine e_or2 ?_ | refine o_none ?_ | refine o_some ?_ | refine p_nil ?_ | refine p_cons ?_ | refine a_nil ?_ | refine a_cons ?_ | refine t_and1 ?_ | refine t_and2 ?_ | refine t_or1 ?_ | refine t_or2 ?_ | refine k_bl ?_ | refine k_int ?_ | refine nd_tru ?_ | refine if_t ?_ | refine if_f ?_ | refine b_nil ?_ | refine b_cons ?_ | refine g_nil ?_ | refine g_cons ?_ | refine o_add ?_ | refine o_sub ?_ | refine o_neg ?_ | refine o_nt ?_ | refine c_lt ?_ | refine c_le ?_ | refine c_gt ?_ | refine c_ge ?_ | refine c_eqI ?_ | refine c_eqS ?_ | refine c_neS ?_ | refine c_neI ?_ | refine c_eqB ?_ | refine if_tc (by decide +kernel) ?_ | refine if_fc (by decide +kernel) ?_ | refine ne_c ?_ | refine isi_non_int ?_ | refine isi_non_tuple ?_ | refine isi_bl_int ?_ | refine isi_bl_tuple ?_ | refine isi_int_int ?_ | refine isi_int_tuple ?_ | refine isi_str_int ?_ | refine isi_str_tuple ?_ | refine isi_tup_int ?_ | refine isi_tup_tuple ?_ | refine isi_rol_int ?_ | refine isi_rol_tuple ?_ | refine isi_ref (by assumption) (by decide) ?_ | refine ts1 ?_ | refine ts0 ?_ | refine c_leB1 ?_ | refine c_leB2 ?_ | refine c_neB ?_ | refine c_eqBI ?_ | refine c_isN ?_ | refine c_isNN ?_ | refine c_in2 ?_ | refine c_in3 ?_ | refine c_in4 ?_ | refine c_in5 ?_ | refine c_ni2 ?_ | refine c_ni4 ?_ | refine c_ni5 ?_ | refine c_eqT0 ?_ | refine c_eqT1 ?_ | refine l_tup ?_ | refine l_rol ?_ | refine l_ref (by assumption) ?_ | refine x_d0 (by assumption) ?_ | refine x_d1 (by assumption) ?_ | refine x_d2 (by assumption) ?_ | refine x_d3 (by assumption) ?_ | refine x_d0 tupd_same ?_ | refine x_d1 tupd_same ?_ | refine x_d2 tupd_same ?_ | refine x_d3 tupd_same ?_ | refine d_go4 ?_ | refine r_bl ?_ | refine r_bl4 (by assumption) ?_ | refine r_bl4 tupd_same ?_ | refine m_min ?_ | refine m_max ?_ | refine m_abs ?_ | refine x_t0 ?_ | refine x_t1 ?_ | refine x_t2 ?_) | (refine len_go ?_ ?_; · (simp; done)) | (refine o_mod ?_ ?_; · (first | decide | omega)) | (refine o_pow ⟨by decide, by decide, by decide⟩ ?_) | (refine o_mul (cmul ?_ ?_ ?_ ?_) ?_; (· omega); (· omega); (· omega); (· omega)) | (refine o_div (cdiv ?_ ?_) ?_; (· omega); (· omega)) | (refine if_tc ?_ ?_; · (first | rfl | (simp; done) | (simp; omega))) | (refine if_fc ?_ ?_; · (first | rfl | (simp; done) | (simp; omega))))
      exact ⟨x, rfl, (hk.at hx).fr hi.1, fun y H2 hy f2 => hR y H2 ⟨hi.1.trans f2, fun z hz => by
        rcases List.mem_append.mp hz with hz | hz
        · exact (hi.2 z hz).fr f2
        · simp only [List.mem_cons, List.not_mem_nil, or_false] at hz
          subst hz
          exact hy⟩⟩
    · exact Nat.le_trans (by simpa using hk.len) (by decide +kernel)
    · intro p2 n2; generalize hh2 : tupd _ p2 _ = H2; have e2 := tsame hh2; have f2 := frof hh2 n2; clear hh2
      repeat (first | (with_reducible first | refine tu_lst (by assumption) ?_ | (refine isE ?_; first | refine x_Ltwin_0 hw ?_ | refine x_Ltwin_c0_1 hw ?_ | refine e_bf hw g_Ltwin_tuple b_tuple (by decide +kernel) (by decide +kernel) ?_ | refine e_bf hw g_Ltwin_int b_int (by decide +kernel) (by decide +kernel) ?_ | refine e_none hw ?_ | refine e_bool hw ?_ | refine e_int hw ?_ | refine e_str hw ?_ | refine e_bin hw ?_ | refine e_una hw ?_ | refine e_and hw ?_ | refine e_or hw ?_ | refine e_ife hw ?_ | refine e_cmp hw ?_ | refine e_cmp2 hw ?_ | refine e_sub hw ?_ | refine e_sl hw ?_ | refine e_tup hw ?_ | refine e_lst hw ?_ | refine e_dct hw ?_ | refine e_isi hw g_Ltwin_isinstance g_Ltwin_tuple nm_tuple (by decide) (by decide +kernel) ?_ | refine e_isi hw g_Ltwin_isinstance g_Ltwin_int nm_int (by decide) (by decide +kernel) ?_ | refine lc_Ltwin_0 hw ?_ | refine w_Ltwin_c0_Ltwin hw ?_) | (refine isT ?_; first | refine t_not hw ?_ | refine t_and hw ?_ | refine t_or hw ?_ | refine t_cmp hw ?_ | refine t_cmp2 hw ?_ | refine t_name hw ?_ | refine t_call hw ?_ | refine t_sub hw ?_) | (refine isS ?_; first | refine s_ret' hw ?_ | refine s_pass' hw ?_ | refine s_brk' hw ?_ | refine s_cnt' hw ?_ | refine s_exp' hw ?_ | refine s_if' hw ?_ | refine s_put' hw ?_ | refine s_for' hw ?_ (hc := cm_Ltwin) | refine y_Ltwin_0 hw ?_) | (refine isG ?_; first | refine g_sb hw ?_ (hc := cm_Ltwin) | refine g_tp2 hw ?_ (hc := cm_Ltwin) | refine z_Ltwin_0 hw ?_ | refine z_Ltwin_c0_1 hw ?_ | refine g_tp2 hw ?_ (hc := cm_Ltwin_c0)) | (refine isI ?_; first | refine i_name hw ?_ | refine i_tup' hw ?_ | refine i_lst' hw ?_) | refine e_and1 ?_ | refine e_and2 ?_ | refine e_or1 ?_ | refine e_or2 ?_ | refine o_none ?_ | refine o_some ?_ | refine p_nil ?_ | refine p_cons ?_ | refine a_nil ?_ | refine a_cons ?_ | refine t_and1 ?_ | refine t_and2 ?_ | refine t_or1 ?_ | refine t_or2 ?_ | refine k_bl ?_ | refine k_int ?_ | refine nd_tru ?_ | refine if_t ?_ | refine if_f ?_ | refine b_nil ?_ | refine b_cons ?_ | refine g_nil ?_ | refine g_cons ?_ | refine o_add ?_ | refine o_sub ?_ | refine o_neg ?_ | refine o_nt ?_ | refine c_lt ?_ | refine c_le ?_ | refine c_gt ?_ | refine c_ge ?_ | refine c_eqI ?_ | refine c_eqS ?_ | refine c_neS ?_ | refine c_neI ?_ | refine c_eqB ?_ | refine if_tc (by decide +kernel) ?_ | refine if_fc (by decide +kernel) ?_ | refine ne_c ?_ | refine isi_non_int ?_ | refine isi_non_tuple ?_ | refine isi_bl_int ?_ | refine isi_bl_tuple ?_ | refine isi_int_int ?_ | refine isi_int_tuple ?_ | refine isi_str_int ?_ | refine isi_str_tuple ?_ | refine isi_tup_int ?_ | refine isi_tup_tuple ?_ | refine isi_rol_int ?_ | refine isi_rol_tuple ?_ | refine isi_ref (by assumption) (by decide) ?_ | refine ts1 ?_ | refine ts0 ?_ | refine c_leB1 ?_ | refine c_leB2 ?_ | refine c_neB ?_ | refine c_eqBI ?_ | refine c_isN ?_ | refine c_isNN ?_ | refine c_in2 ?_ | refine c_in3 ?_ | refine c_in4 ?_ | refine c_in5 ?_ | refine c_ni2 ?_ | refine c_ni4 ?_ | refine c_ni5 ?_ | refine c_eqT0 ?_ | refine c_eqT1 ?_ | refine l_tup ?_ | refine l_rol ?_ | refine l_ref (by assumption) ?_ | refine x_d0 (by assumption) ?_ | refine x_d1 (by assumption) ?_ | refine x_d2 (by assumption) ?_ | refine x_d3 (by assumption) ?_ | refine x_d0 tupd_same ?_ | refine x_d1 tupd_same ?_ | refine x_d2 tupd_same ?_ | refine x_d3 tupd_same ?_ | refine d_go4 ?_ | refine r_bl ?_ | refine r_bl4 (by assumption) ?_ | refine r_bl4 tupd_same ?_ | refine m_min ?_ | refine m_max ?_ | refine m_abs ?_ | refine x_t0 ?_ | refine x_t1 ?_ | refine x_t2 ?_) | (refine len_go ?_ ?_; · (simp; done)) | (refine o_mod ?_ ?_; · (first | decide | omega)) | (refine o_pow ⟨by decide, by decide, by decide⟩ ?_) | (refine o_mul (cmul ?_ ?_ ?_ ?_) ?_; (· omega); (· omega); (· omega); (· omega)) | (refine o_div (cdiv ?_ ?_) ?_; (· omega); (· omega)) | (refine if_tc ?_ ?_; · (first | rfl | (simp; done) | (simp; omega))) | (refine if_fc ?_ ?_; · (first | rfl | (simp; done) | (simp; omega))))
      exact h _ _ (.tup fun y hy => (hi.2 y hy).fr f2) (hi.1.trans f2)
  all_goals
    repeat' (first | (with_reducible first | (refine isE ?_; first | refine x_Ltwin_0 hw ?_ | refine x_Ltwin_c0_1 hw ?_ | refine e_bf hw g_Ltwin_tuple b_tuple (by decide +kernel) (by decide +kernel) ?_ | refine e_bf hw g_Ltwin_int b_int (by decide +kernel) (by decide +kernel) ?_ | refine e_none hw ?_ | refine e_bool hw ?_ | refine e_int hw ?_ | refine e_str hw ?_ | refine e_bin hw ?_ | refine e_una hw ?_ | refine e_and hw ?_ | refine e_or hw ?_ | refine e_ife hw ?_ | refine e_cmp hw ?_ | refine e_cmp2 hw ?_ | refine e_sub hw ?_ | refine e_sl hw ?_ | refine e_tup hw ?_ | refine e_lst hw ?_ | refine e_dct hw ?_ | refine e_isi hw g_Ltwin_isinstance g_Ltwin_tuple nm_tuple (by decide) (by decide +kernel) ?_ | refine e_isi hw g_Ltwin_isinstance g_Ltwin_int nm_int (by decide) (by decide +kernel) ?_ | refine lc_Ltwin_0 hw ?_ | refine w_Ltwin_c0_Ltwin hw ?_) | (refine isT ?_; first | refine t_not hw ?_ | refine t_and hw ?_ | refine t_or hw ?_ | refine t_cmp hw ?_ | refine t_cmp2 hw ?_ | refine t_name hw ?_ | refine t_call hw ?_ | refine t_sub hw ?_) | (refine isS ?_; first | refine s_ret' hw ?_ | refine s_pass' hw ?_ | refine s_brk' hw ?_ | refine s_cnt' hw ?_ | refine s_exp' hw ?_ | refine s_if' hw ?_ | refine s_put' hw ?_ | refine s_for' hw ?_ (hc := cm_Ltwin) | refine y_Ltwin_0 hw ?_) | (refine isG ?_; first | refine g_sb hw ?_ (hc := cm_Ltwin) | refine g_tp2 hw ?_ (hc := cm_Ltwin) | refine z_Ltwin_0 hw ?_ | refine z_Ltwin_c0_1 hw ?_ | refine g_tp2 hw ?_ (hc := cm_Ltwin_c0)) | (refine isI ?_; first | refine i_name hw ?_ | refine i_tup' hw ?_ | refine i_lst' hw ?_) | refine e_and1 ?_ | refine e_and2 ?_ | refine e_or1 ?_ | refine e_or2 ?_ | refine o_none ?_ | refine o_some ?_ | refine p_nil ?_ | refine p_cons ?_ | refine a_nil ?_ | refine a_cons ?_ | refine t_and1 ?_ | refine t_and2 ?_ | refine t_or1 ?_ | refine t_or2 ?_ | refine k_bl ?_ | refine k_int ?_ | refine nd_tru ?_ | refine if_t ?_ | refine if_f ?_ | refine b_nil ?_ | refine b_cons ?_ | refine g_nil ?_ | refine g_cons ?_ | refine o_add ?_ | refine o_sub ?_ | refine o_neg ?_ | refine o_nt ?_ | refine c_lt ?_ | refine c_le ?_ | refine c_gt ?_ | refine c_ge ?_ | refine c_eqI ?_ | refine c_eqS ?_ | refine c_neS ?_ | refine c_neI ?_ | refine c_eqB ?_ | refine if_tc (by decide +kernel) ?_ | refine if_fc (by decide +kernel) ?_ | refine ne_c ?_ | refine isi_non_int ?_ | refine isi_non_tuple ?_ | refine isi_bl_int ?_ | refine isi_bl_tuple ?_ | refine isi_int_int ?_ | refine isi_int_tuple ?_ | refine isi_str_int ?_ | refine isi_str_tuple ?_ | refine isi_tup_int ?_ | refine isi_tup_tuple ?_ | refine isi_rol_int ?_ | refine isi_rol_tuple ?_ | refine isi_ref (by assumption) (by decide) ?_ | refine ts1 ?_ | refine ts0 ?_ | refine c_leB1 ?_ | refine c_leB2 ?_ | refine c_neB ?_ | refine c_eqBI ?_ | refine c_isN ?_ | refine c_isNN ?_ | refine c_in2 ?_ | refine c_in3 ?_ | refine c_in4 ?_ | refine c_in5 ?_ | refine c_ni2 ?_ | refine c_ni4 ?_ | refine c_ni5 ?_ | refine c_eqT0 ?_ | refine c_eqT1 ?_ | refine l_tup ?_ | refine l_rol ?_ | refine l_ref (by assumption) ?_ | refine x_d0 (by assumption) ?_ | refine x_d1 (by assumption) ?_ | refine x_d2 (by assumption) ?_ | refine x_d3 (by assumption) ?_ | refine x_d0 tupd_same ?_ | refine x_d1 tupd_same ?_ | refine x_d2 tupd_same ?_ | refine x_d3 tupd_same ?_ | refine d_go4 ?_ | refine r_bl ?_ | refine r_bl4 (by assumption) ?_ | refine r_bl4 tupd_same ?_ | refine m_min ?_ | refine m_max ?_ | refine m_abs ?_ | refine x_t0 ?_ | refine x_t1 ?_ | refine x_t2 ?_) | (refine len_go ?_ ?_; · (simp; done)) | (refine o_mod ?_ ?_; · (first | decide | omega)) | (refine o_pow ⟨by decide, by decide, by decide⟩ ?_) | (refine o_mul (cmul ?_ ?_ ?_ ?_) ?_; (· omega); (· omega); (· omega); (· omega)) | (refine o_div (cdiv ?_ ?_) ?_; (· omega); (· omega)) | (refine if_tc ?_ ?_; · (first | rfl | (simp; done) | (simp; omega))) | (refine if_fc ?_ ?_; · (first | rfl | (simp; done) | (simp; omega))) | refine if_c (fun _ => ?_) (fun _ => ?_) | intro _ _)
  all_goals first | exact h _ _ .bl (.refl _) | exact h _ _ .int (.refl _) | exact h _ _ hk.1 (.refl _)
theorem bot_Ltwin {vs : List TV} {H : TH} {E : TX} {Q : TQ} (h : spr_Ltwin 0 vs H E Q) : False := by
  obtain ⟨_, _, ⟨_, z⟩, _⟩ := h
  cases z
def sp_Lsaid : TSp := fun vs H _ Q => ∃ x, vs = [x] ∧ Tg H x ∧ ∀ H', Fr H H' → Q (.bl (isTaker x)) H'
theorem u_said {x : TV} {H : TH} {E : TX} {Q : TQ} (hk : Tg H x) (h : ∀ H', Fr H H' → Q (.bl (isTaker x)) H') : sp_Lsaid [x] H E Q := ⟨x, rfl, hk, h⟩
def G_Lsaid : GE := gOf [("need_taker", sp_need_taker)] [] KS
theorem rs_Lsaid_BadTaker {w : Nat → WP} {n : Nat} {σ : TSt} {H : TH} {D : TEnds} {p q pos : Pos} {a : Expr} {es : List Expr} (hw : Steps w) (h : argsW ((w n).e S_Lsaid G_Lsaid) (a :: es) σ H (fun x H1 => D.ex x σ H1) fun xs H1 => xs ≠ [] ∧ ci_BadTaker.xk xs H1 fun fs => D.ex ⟨"BadTaker", fs⟩ σ H1) (hs : noStars (a :: es) = true := by decide +kernel) : (w (n + 1)).s S_Lsaid G_Lsaid (.Raise (some (.Call (.Name "BadTaker" p) (a :: es) [] q)) none pos) D σ H := s_rse hw g_Lsaid_BadTaker (by kernel_rfl) rfl hs h
theorem c_Lsaid_need_taker : G_Lsaid.fn "need_taker" = some (sp_need_taker) := by kernel_rfl
theorem w_Lsaid_need_taker {w : Nat → WP} {n : Nat} {σ : TSt} {H : TH} {E : TX} {Q : TQ} {p pos : Pos} {es : List Expr} (hw : Steps w) (h : argsW ((w n).e S_Lsaid G_Lsaid) es σ H E fun xs H1 => sp_need_taker xs H1 E Q) (hi : noIsi "need_taker" es = true := by decide +kernel) (hs : noStars es = true := by decide +kernel) : (w (n + 1)).e S_Lsaid G_Lsaid (.Call (.Name "need_taker" p) es [] pos) σ H E Q := e_call hw g_Lsaid_need_taker (by kernel_rfl) hi c_Lsaid_need_taker hs h
theorem w_Lsaid_BadTaker {w : Nat → WP} {n : Nat} {σ : TSt} {H : TH} {E : TX} {Q : TQ} {p pos : Pos} {es : List Expr} (hw : Steps w) (h : argsW ((w n).e S_Lsaid G_Lsaid) es σ H E fun xs H1 => xs ≠ [] ∧ ci_BadTaker.xk xs H1 fun fs => ∀ p, H1 p = none → Q (.ref p) (tupd H1 p (.exc "BadTaker" fs))) (hi : noIsi "BadTaker" es = true := by decide +kernel) (hs : noStars es = true := by decide +kernel) : (w (n + 1)).e S_Lsaid G_Lsaid (.Call (.Name "BadTaker" p) es [] pos) σ H E Q := e_mk hw g_Lsaid_BadTaker (by kernel_rfl) hi (by kernel_rfl) (by kernel_rfl) rfl hs h
theorem bd_Lsaid {w : Nat → WP} (hw : Steps w) {v0 : TV} {H : TH} {E : TX} {Q : TQ} (h : sp_Lsaid [v0] H E Q) : blockW ((w 40).s S_Lsaid G_Lsaid) (defBody st_Lsaid) ⟨fun _ H => Q .non H, Q, fun _ _ => False, fun _ _ => False, fun e _ H => E e H⟩ [some v0, none, none, none] H := by
  obtain ⟨x, e, hk, h⟩ := h
  cases e
  refine b_cons ?_
  repeat (first | (with_reducible first | (refine isE ?_; first | refine x_Lsaid_0 hw ?_ | refine x_Lsaid_1 hw ?_ | refine x_Lsaid_2 hw ?_ | refine x_Lsaid_3 hw ?_ | refine w_Lsaid_need_taker hw ?_ | refine e_none hw ?_ | refine e_bool hw ?_ | refine e_int hw ?_ | refine e_str hw ?_ | refine e_bin hw ?_ | refine e_una hw ?_ | refine e_and hw ?_ | refine e_or hw ?_ | refine e_ife hw ?_ | refine e_cmp hw ?_ | refine e_cmp2 hw ?_ | refine e_sub hw ?_ | refine e_sl hw ?_ | refine e_tup hw ?_ | refine e_lst hw ?_ | refine e_dct hw ?_ | refine w_Lsaid_BadTaker hw ?_ | refine e_isoT (cs := ["BadAnswer", "BadAsked", "BadLimit", "BadLine", "BadLoop", "BadNet", "BadPlace", "BadRoom", "BadStory", "BadText"]) hw g_Lsaid_isinstance (by decide +kernel) (by decide +kernel) (by decide +kernel) (by decide +kernel) ?_ | refine e_isoT (cs := ["Over", "TooMany", "Unsound"]) hw g_Lsaid_isinstance (by decide +kernel) (by decide +kernel) (by decide +kernel) (by decide +kernel) ?_ | refine e_iso (cn := "BadTaker") hw g_Lsaid_isinstance (by kernel_rfl) (by decide +kernel) (by decide +kernel) ?_ | refine xh_Lsaid_0 hw ?_ | refine xh_Lsaid_1 hw ?_ | refine xh_Lsaid_2 hw ?_ | refine xh_Lsaid_3 hw ?_) | (refine isT ?_; first | refine t_not hw ?_ | refine t_and hw ?_ | refine t_or hw ?_ | refine t_cmp hw ?_ | refine t_cmp2 hw ?_ | refine t_name hw ?_ | refine t_call hw ?_ | refine t_sub hw ?_) | (refine isS ?_; first | refine s_ret' hw ?_ | refine s_pass' hw ?_ | refine s_brk' hw ?_ | refine s_cnt' hw ?_ | refine s_exp' hw ?_ | refine s_if' hw ?_ | refine s_put' hw ?_ | refine rs_Lsaid_BadTaker hw ?_ | refine s_try' hw rfl (by decide +kernel) ?_ | refine yh_Lsaid_0 hw ?_ | refine yh_Lsaid_1 hw ?_ | refine yh_Lsaid_2 hw ?_ | refine yh_Lsaid_3 hw ?_ | refine s_for' hw ?_ (hc := cm_Lsaid) | refine y_Lsaid_0 hw ?_ | refine y_Lsaid_1 hw ?_ | refine y_Lsaid_2 hw ?_ | refine y_Lsaid_3 hw ?_) | (refine isG ?_; first | refine g_sb hw ?_ (hc := cm_Lsaid) | refine g_tp2 hw ?_ (hc := cm_Lsaid) | refine z_Lsaid_0 hw ?_ | refine z_Lsaid_1 hw ?_ | refine z_Lsaid_2 hw ?_ | refine z_Lsaid_3 hw ?_) | (refine isI ?_; first | refine i_name hw ?_ | refine i_tup' hw ?_ | refine i_lst' hw ?_) | refine e_and1 ?_ | refine e_and2 ?_ | refine e_or1 ?_ | refine e_or2 ?_ | refine o_none ?_ | refine o_some ?_ | refine p_nil ?_ | refine p_cons ?_ | refine a_nil ?_ | refine a_cons ?_ | refine t_and1 ?_ | refine t_and2 ?_ | refine t_or1 ?_ | refine t_or2 ?_ | refine k_bl ?_ | refine k_int ?_ | refine nd_tru ?_ | refine if_t ?_ | refine if_f ?_ | refine b_nil ?_ | refine b_cons ?_ | refine g_nil ?_ | refine g_cons ?_ | refine o_add ?_ | refine o_sub ?_ | refine o_neg ?_ | refine o_nt ?_ | refine c_lt ?_ | refine c_le ?_ | refine c_gt ?_ | refine c_ge ?_ | refine c_eqI ?_ | refine c_eqS ?_ | refine c_neS ?_ | refine c_neI ?_ | refine c_eqB ?_ | refine if_tc (by decide +kernel) ?_ | refine if_fc (by decide +kernel) ?_ | refine xk_BadTaker ?_ | refine ne_c ?_ | refine iso_non ?_ | refine iso_bl ?_ | refine iso_int ?_ | refine iso_tup ?_ | refine iso_ex (b := true) (by assumption) (by decide +kernel) ?_ | refine iso_ex (b := true) tupd_same (by decide +kernel) ?_ | refine iso_ex (b := false) (by assumption) (by decide +kernel) ?_ | refine iso_ex (b := false) tupd_same (by decide +kernel) ?_ | refine x_pass (by decide +kernel) ?_ | refine x_none ?_ | refine k_backr ?_ | refine k_backn ?_ | refine xc_Lsaid_3 (by decide +kernel) ?_ | refine bn_Lsaid_3 ?_ | refine isi_ref (by assumption) (by decide) ?_ | refine c_leB1 ?_ | refine c_leB2 ?_ | refine c_neB ?_ | refine c_eqBI ?_ | refine c_isN ?_ | refine c_isNN ?_ | refine c_in2 ?_ | refine c_in3 ?_ | refine c_in4 ?_ | refine c_in5 ?_ | refine c_ni2 ?_ | refine c_ni4 ?_ | refine c_ni5 ?_ | refine c_eqT0 ?_ | refine c_eqT1 ?_ | refine l_tup ?_ | refine l_rol ?_ | refine l_ref (by assumption) ?_ | refine x_d0 (by assumption) ?_ | refine x_d1 (by assumption) ?_ | refine x_d2 (by assumption) ?_ | refine x_d3 (by assumption) ?_ | refine x_d0 tupd_same ?_ | refine x_d1 tupd_same ?_ | refine x_d2 tupd_same ?_ | refine x_d3 tupd_same ?_ | refine d_go4 ?_ | refine r_bl ?_ | refine r_bl4 (by assumption) ?_ | refine r_bl4 tupd_same ?_ | refine m_min ?_ | refine m_max ?_ | refine m_abs ?_ | refine x_t0 ?_ | refine x_t1 ?_ | refine x_t2 ?_) | (refine len_go ?_ ?_; · (simp; done)) | (refine o_mod ?_ ?_; · (first | decide | omega)) | (refine o_pow ⟨by decide, by decide, by decide⟩ ?_) | (refine o_mul (cmul ?_ ?_ ?_ ?_) ?_; (· omega); (· omega); (· omega); (· omega)) | (refine o_div (cdiv ?_ ?_) ?_; (· omega); (· omega)) | (refine if_tc ?_ ?_; · (first | rfl | (simp; done) | (simp; omega))) | (refine if_fc ?_ ?_; · (first | rfl | (simp; done) | (simp; omega))))
  refine u_need_taker hk (fun ht => ?_) (fun ht => ?_)
  · repeat (first | (with_reducible first | (refine isE ?_; first | refine x_Lsaid_0 hw ?_ | refine x_Lsaid_1 hw ?_ | refine x_Lsaid_2 hw ?_ | refine x_Lsaid_3 hw ?_ | refine w_Lsaid_need_taker hw ?_ | refine e_none hw ?_ | refine e_bool hw ?_ | refine e_int hw ?_ | refine e_str hw ?_ | refine e_bin hw ?_ | refine e_una hw ?_ | refine e_and hw ?_ | refine e_or hw ?_ | refine e_ife hw ?_ | refine e_cmp hw ?_ | refine e_cmp2 hw ?_ | refine e_sub hw ?_ | refine e_sl hw ?_ | refine e_tup hw ?_ | refine e_lst hw ?_ | refine e_dct hw ?_ | refine w_Lsaid_BadTaker hw ?_ | refine e_isoT (cs := ["BadAnswer", "BadAsked", "BadLimit", "BadLine", "BadLoop", "BadNet", "BadPlace", "BadRoom", "BadStory", "BadText"]) hw g_Lsaid_isinstance (by decide +kernel) (by decide +kernel) (by decide +kernel) (by decide +kernel) ?_ | refine e_isoT (cs := ["Over", "TooMany", "Unsound"]) hw g_Lsaid_isinstance (by decide +kernel) (by decide +kernel) (by decide +kernel) (by decide +kernel) ?_ | refine e_iso (cn := "BadTaker") hw g_Lsaid_isinstance (by kernel_rfl) (by decide +kernel) (by decide +kernel) ?_ | refine xh_Lsaid_0 hw ?_ | refine xh_Lsaid_1 hw ?_ | refine xh_Lsaid_2 hw ?_ | refine xh_Lsaid_3 hw ?_) | (refine isT ?_; first | refine t_not hw ?_ | refine t_and hw ?_ | refine t_or hw ?_ | refine t_cmp hw ?_ | refine t_cmp2 hw ?_ | refine t_name hw ?_ | refine t_call hw ?_ | refine t_sub hw ?_) | (refine isS ?_; first | refine s_ret' hw ?_ | refine s_pass' hw ?_ | refine s_brk' hw ?_ | refine s_cnt' hw ?_ | refine s_exp' hw ?_ | refine s_if' hw ?_ | refine s_put' hw ?_ | refine rs_Lsaid_BadTaker hw ?_ | refine s_try' hw rfl (by decide +kernel) ?_ | refine yh_Lsaid_0 hw ?_ | refine yh_Lsaid_1 hw ?_ | refine yh_Lsaid_2 hw ?_ | refine yh_Lsaid_3 hw ?_ | refine s_for' hw ?_ (hc := cm_Lsaid) | refine y_Lsaid_0 hw ?_ | refine y_Lsaid_1 hw ?_ | refine y_Lsaid_2 hw ?_ | refine y_Lsaid_3 hw ?_) | (refine isG ?_; first | refine g_sb hw ?_ (hc := cm_Lsaid) | refine g_tp2 hw ?_ (hc := cm_Lsaid) | refine z_Lsaid_0 hw ?_ | refine z_Lsaid_1 hw ?_ | refine z_Lsaid_2 hw ?_ | refine z_Lsaid_3 hw ?_) | (refine isI ?_; first | refine i_name hw ?_ | refine i_tup' hw ?_ | refine i_lst' hw ?_) | refine e_and1 ?_ | refine e_and2 ?_ | refine e_or1 ?_ | refine e_or2 ?_ | refine o_none ?_ | refine o_some ?_ | refine p_nil ?_ | refine p_cons ?_ | refine a_nil ?_ | refine a_cons ?_ | refine t_and1 ?_ | refine t_and2 ?_ | refine t_or1 ?_ | refine t_or2 ?_ | refine k_bl ?_ | refine k_int ?_ | refine nd_tru ?_ | refine if_t ?_ | refine if_f ?_ | refine b_nil ?_ | refine b_cons ?_ | refine g_nil ?_ | refine g_cons ?_ | refine o_add ?_ | refine o_sub ?_ | refine o_neg ?_ | refine o_nt ?_ | refine c_lt ?_ | refine c_le ?_ | refine c_gt ?_ | refine c_ge ?_ | refine c_eqI ?_ | refine c_eqS ?_ | refine c_neS ?_ | refine c_neI ?_ | refine c_eqB ?_ | refine if_tc (by decide +kernel) ?_ | refine if_fc (by decide +kernel) ?_ | refine xk_BadTaker ?_ | refine ne_c ?_ | refine iso_non ?_ | refine iso_bl ?_ | refine iso_int ?_ | refine iso_tup ?_ | refine iso_ex (b := true) (by assumption) (by decide +kernel) ?_ | refine iso_ex (b := true) tupd_same (by decide +kernel) ?_ | refine iso_ex (b := false) (by assumption) (by decide +kernel) ?_ | refine iso_ex (b := false) tupd_same (by decide +kernel) ?_ | refine x_pass (by decide +kernel) ?_ | refine x_none ?_ | refine k_backr ?_ | refine k_backn ?_ | refine xc_Lsaid_3 (by decide +kernel) ?_ | refine bn_Lsaid_3 ?_ | refine isi_ref (by assumption) (by decide) ?_ | refine c_leB1 ?_ | refine c_leB2 ?_ | refine c_neB ?_ | refine c_eqBI ?_ | refine c_isN ?_ | refine c_isNN ?_ | refine c_in2 ?_ | refine c_in3 ?_ | refine c_in4 ?_ | refine c_in5 ?_ | refine c_ni2 ?_ | refine c_ni4 ?_ | refine c_ni5 ?_ | refine c_eqT0 ?_ | refine c_eqT1 ?_ | refine l_tup ?_ | refine l_rol ?_ | refine l_ref (by assumption) ?_ | refine x_d0 (by assumption) ?_ | refine x_d1 (by assumption) ?_ | refine x_d2 (by assumption) ?_ | refine x_d3 (by assumption) ?_ | refine x_d0 tupd_same ?_ | refine x_d1 tupd_same ?_ | refine x_d2 tupd_same ?_ | refine x_d3 tupd_same ?_ | refine d_go4 ?_ | refine r_bl ?_ | refine r_bl4 (by assumption) ?_ | refine r_bl4 tupd_same ?_ | refine m_min ?_ | refine m_max ?_ | refine m_abs ?_ | refine x_t0 ?_ | refine x_t1 ?_ | refine x_t2 ?_) | (refine len_go ?_ ?_; · (simp; done)) | (refine o_mod ?_ ?_; · (first | decide | omega)) | (refine o_pow ⟨by decide, by decide, by decide⟩ ?_) | (refine o_mul (cmul ?_ ?_ ?_ ?_) ?_; (· omega); (· omega); (· omega); (· omega)) | (refine o_div (cdiv ?_ ?_) ?_; (· omega); (· omega)) | (refine if_tc ?_ ?_; · (first | rfl | (simp; done) | (simp; omega))) | (refine if_fc ?_ ?_; · (first | rfl | (simp; done) | (simp; omega))))
    refine bl_of (h _ (.refl _)) ?_
    rw [ht]
    rfl
  · repeat (first | (with_reducible first | (refine isE ?_; first | refine x_Lsaid_0 hw ?_ | refine x_Lsaid_1 hw ?_ | refine x_Lsaid_2 hw ?_ | refine x_Lsaid_3 hw ?_ | refine w_Lsaid_need_taker hw ?_ | refine e_none hw ?_ | refine e_bool hw ?_ | refine e_int hw ?_ | refine e_str hw ?_ | refine e_bin hw ?_ | refine e_una hw ?_ | refine e_and hw ?_ | refine e_or hw ?_ | refine e_ife hw ?_ | refine e_cmp hw ?_ | refine e_cmp2 hw ?_ | refine e_sub hw ?_ | refine e_sl hw ?_ | refine e_tup hw ?_ | refine e_lst hw ?_ | refine e_dct hw ?_ | refine w_Lsaid_BadTaker hw ?_ | refine e_isoT (cs := ["BadAnswer", "BadAsked", "BadLimit", "BadLine", "BadLoop", "BadNet", "BadPlace", "BadRoom", "BadStory", "BadText"]) hw g_Lsaid_isinstance (by decide +kernel) (by decide +kernel) (by decide +kernel) (by decide +kernel) ?_ | refine e_isoT (cs := ["Over", "TooMany", "Unsound"]) hw g_Lsaid_isinstance (by decide +kernel) (by decide +kernel) (by decide +kernel) (by decide +kernel) ?_ | refine e_iso (cn := "BadTaker") hw g_Lsaid_isinstance (by kernel_rfl) (by decide +kernel) (by decide +kernel) ?_ | refine xh_Lsaid_0 hw ?_ | refine xh_Lsaid_1 hw ?_ | refine xh_Lsaid_2 hw ?_ | refine xh_Lsaid_3 hw ?_) | (refine isT ?_; first | refine t_not hw ?_ | refine t_and hw ?_ | refine t_or hw ?_ | refine t_cmp hw ?_ | refine t_cmp2 hw ?_ | refine t_name hw ?_ | refine t_call hw ?_ | refine t_sub hw ?_) | (refine isS ?_; first | refine s_ret' hw ?_ | refine s_pass' hw ?_ | refine s_brk' hw ?_ | refine s_cnt' hw ?_ | refine s_exp' hw ?_ | refine s_if' hw ?_ | refine s_put' hw ?_ | refine rs_Lsaid_BadTaker hw ?_ | refine s_try' hw rfl (by decide +kernel) ?_ | refine yh_Lsaid_0 hw ?_ | refine yh_Lsaid_1 hw ?_ | refine yh_Lsaid_2 hw ?_ | refine yh_Lsaid_3 hw ?_ | refine s_for' hw ?_ (hc := cm_Lsaid) | refine y_Lsaid_0 hw ?_ | refine y_Lsaid_1 hw ?_ | refine y_Lsaid_2 hw ?_ | refine y_Lsaid_3 hw ?_) | (refine isG ?_; first | refine g_sb hw ?_ (hc := cm_Lsaid) | refine g_tp2 hw ?_ (hc := cm_Lsaid) | refine z_Lsaid_0 hw ?_ | refine z_Lsaid_1 hw ?_ | refine z_Lsaid_2 hw ?_ | refine z_Lsaid_3 hw ?_) | (refine isI ?_; first | refine i_name hw ?_ | refine i_tup' hw ?_ | refine i_lst' hw ?_) | refine e_and1 ?_ | refine e_and2 ?_ | refine e_or1 ?_ | refine e_or2 ?_ | refine o_none ?_ | refine o_some ?_ | refine p_nil ?_ | refine p_cons ?_ | refine a_nil ?_ | refine a_cons ?_ | refine t_and1 ?_ | refine t_and2 ?_ | refine t_or1 ?_ | refine t_or2 ?_ | refine k_bl ?_ | refine k_int ?_ | refine nd_tru ?_ | refine if_t ?_ | refine if_f ?_ | refine b_nil ?_ | refine b_cons ?_ | refine g_nil ?_ | refine g_cons ?_ | refine o_add ?_ | refine o_sub ?_ | refine o_neg ?_ | refine o_nt ?_ | refine c_lt ?_ | refine c_le ?_ | refine c_gt ?_ | refine c_ge ?_ | refine c_eqI ?_ | refine c_eqS ?_ | refine c_neS ?_ | refine c_neI ?_ | refine c_eqB ?_ | refine if_tc (by decide +kernel) ?_ | refine if_fc (by decide +kernel) ?_ | refine xk_BadTaker ?_ | refine ne_c ?_ | refine iso_non ?_ | refine iso_bl ?_ | refine iso_int ?_ | refine iso_tup ?_ | refine iso_ex (b := true) (by assumption) (by decide +kernel) ?_ | refine iso_ex (b := true) tupd_same (by decide +kernel) ?_ | refine iso_ex (b := false) (by assumption) (by decide +kernel) ?_ | refine iso_ex (b := false) tupd_same (by decide +kernel) ?_ | refine x_pass (by decide +kernel) ?_ | refine x_none ?_ | refine k_backr ?_ | refine k_backn ?_ | refine xc_Lsaid_3 (by decide +kernel) ?_ | refine bn_Lsaid_3 ?_ | refine isi_ref (by assumption) (by decide) ?_ | refine c_leB1 ?_ | refine c_leB2 ?_ | refine c_neB ?_ | refine c_eqBI ?_ | refine c_isN ?_ | refine c_isNN ?_ | refine c_in2 ?_ | refine c_in3 ?_ | refine c_in4 ?_ | refine c_in5 ?_ | refine c_ni2 ?_ | refine c_ni4 ?_ | refine c_ni5 ?_ | refine c_eqT0 ?_ | refine c_eqT1 ?_ | refine l_tup ?_ | refine l_rol ?_ | refine l_ref (by assumption) ?_ | refine x_d0 (by assumption) ?_ | refine x_d1 (by assumption) ?_ | refine x_d2 (by assumption) ?_ | refine x_d3 (by assumption) ?_ | refine x_d0 tupd_same ?_ | refine x_d1 tupd_same ?_ | refine x_d2 tupd_same ?_ | refine x_d3 tupd_same ?_ | refine d_go4 ?_ | refine r_bl ?_ | refine r_bl4 (by assumption) ?_ | refine r_bl4 tupd_same ?_ | refine m_min ?_ | refine m_max ?_ | refine m_abs ?_ | refine x_t0 ?_ | refine x_t1 ?_ | refine x_t2 ?_) | (refine len_go ?_ ?_; · (simp; done)) | (refine o_mod ?_ ?_; · (first | decide | omega)) | (refine o_pow ⟨by decide, by decide, by decide⟩ ?_) | (refine o_mul (cmul ?_ ?_ ?_ ?_) ?_; (· omega); (· omega); (· omega); (· omega)) | (refine o_div (cdiv ?_ ?_) ?_; (· omega); (· omega)) | (refine if_tc ?_ ?_; · (first | rfl | (simp; done) | (simp; omega))) | (refine if_fc ?_ ?_; · (first | rfl | (simp; done) | (simp; omega))))
    intro p2 n2; generalize hh2 : tupd _ p2 _ = H2; have e2 := tsame hh2; have f2 := frof hh2 n2; clear hh2
    repeat (first | (with_reducible first | (refine isE ?_; first | refine x_Lsaid_0 hw ?_ | refine x_Lsaid_1 hw ?_ | refine x_Lsaid_2 hw ?_ | refine x_Lsaid_3 hw ?_ | refine w_Lsaid_need_taker hw ?_ | refine e_none hw ?_ | refine e_bool hw ?_ | refine e_int hw ?_ | refine e_str hw ?_ | refine e_bin hw ?_ | refine e_una hw ?_ | refine e_and hw ?_ | refine e_or hw ?_ | refine e_ife hw ?_ | refine e_cmp hw ?_ | refine e_cmp2 hw ?_ | refine e_sub hw ?_ | refine e_sl hw ?_ | refine e_tup hw ?_ | refine e_lst hw ?_ | refine e_dct hw ?_ | refine w_Lsaid_BadTaker hw ?_ | refine e_isoT (cs := ["BadAnswer", "BadAsked", "BadLimit", "BadLine", "BadLoop", "BadNet", "BadPlace", "BadRoom", "BadStory", "BadText"]) hw g_Lsaid_isinstance (by decide +kernel) (by decide +kernel) (by decide +kernel) (by decide +kernel) ?_ | refine e_isoT (cs := ["Over", "TooMany", "Unsound"]) hw g_Lsaid_isinstance (by decide +kernel) (by decide +kernel) (by decide +kernel) (by decide +kernel) ?_ | refine e_iso (cn := "BadTaker") hw g_Lsaid_isinstance (by kernel_rfl) (by decide +kernel) (by decide +kernel) ?_ | refine xh_Lsaid_0 hw ?_ | refine xh_Lsaid_1 hw ?_ | refine xh_Lsaid_2 hw ?_ | refine xh_Lsaid_3 hw ?_) | (refine isT ?_; first | refine t_not hw ?_ | refine t_and hw ?_ | refine t_or hw ?_ | refine t_cmp hw ?_ | refine t_cmp2 hw ?_ | refine t_name hw ?_ | refine t_call hw ?_ | refine t_sub hw ?_) | (refine isS ?_; first | refine s_ret' hw ?_ | refine s_pass' hw ?_ | refine s_brk' hw ?_ | refine s_cnt' hw ?_ | refine s_exp' hw ?_ | refine s_if' hw ?_ | refine s_put' hw ?_ | refine rs_Lsaid_BadTaker hw ?_ | refine s_try' hw rfl (by decide +kernel) ?_ | refine yh_Lsaid_0 hw ?_ | refine yh_Lsaid_1 hw ?_ | refine yh_Lsaid_2 hw ?_ | refine yh_Lsaid_3 hw ?_ | refine s_for' hw ?_ (hc := cm_Lsaid) | refine y_Lsaid_0 hw ?_ | refine y_Lsaid_1 hw ?_ | refine y_Lsaid_2 hw ?_ | refine y_Lsaid_3 hw ?_) | (refine isG ?_; first | refine g_sb hw ?_ (hc := cm_Lsaid) | refine g_tp2 hw ?_ (hc := cm_Lsaid) | refine z_Lsaid_0 hw ?_ | refine z_Lsaid_1 hw ?_ | refine z_Lsaid_2 hw ?_ | refine z_Lsaid_3 hw ?_) | (refine isI ?_; first | refine i_name hw ?_ | refine i_tup' hw ?_ | refine i_lst' hw ?_) | refine e_and1 ?_ | refine e_and2 ?_ | refine e_or1 ?_ | refine e_or2 ?_ | refine o_none ?_ | refine o_some ?_ | refine p_nil ?_ | refine p_cons ?_ | refine a_nil ?_ | refine a_cons ?_ | refine t_and1 ?_ | refine t_and2 ?_ | refine t_or1 ?_ | refine t_or2 ?_ | refine k_bl ?_ | refine k_int ?_ | refine nd_tru ?_ | refine if_t ?_ | refine if_f ?_ | refine b_nil ?_ | refine b_cons ?_ | refine g_nil ?_ | refine g_cons ?_ | refine o_add ?_ | refine o_sub ?_ | refine o_neg ?_ | refine o_nt ?_ | refine c_lt ?_ | refine c_le ?_ | refine c_gt ?_ | refine c_ge ?_ | refine c_eqI ?_ | refine c_eqS ?_ | refine c_neS ?_ | refine c_neI ?_ | refine c_eqB ?_ | refine if_tc (by decide +kernel) ?_ | refine if_fc (by decide +kernel) ?_ | refine xk_BadTaker ?_ | refine ne_c ?_ | refine iso_non ?_ | refine iso_bl ?_ | refine iso_int ?_ | refine iso_tup ?_ | refine iso_ex (b := true) (by assumption) (by decide +kernel) ?_ | refine iso_ex (b := true) tupd_same (by decide +kernel) ?_ | refine iso_ex (b := false) (by assumption) (by decide +kernel) ?_ | refine iso_ex (b := false) tupd_same (by decide +kernel) ?_ | refine x_pass (by decide +kernel) ?_ | refine x_none ?_ | refine k_backr ?_ | refine k_backn ?_ | refine xc_Lsaid_3 (by decide +kernel) ?_ | refine bn_Lsaid_3 ?_ | refine isi_ref (by assumption) (by decide) ?_ | refine c_leB1 ?_ | refine c_leB2 ?_ | refine c_neB ?_ | refine c_eqBI ?_ | refine c_isN ?_ | refine c_isNN ?_ | refine c_in2 ?_ | refine c_in3 ?_ | refine c_in4 ?_ | refine c_in5 ?_ | refine c_ni2 ?_ | refine c_ni4 ?_ | refine c_ni5 ?_ | refine c_eqT0 ?_ | refine c_eqT1 ?_ | refine l_tup ?_ | refine l_rol ?_ | refine l_ref (by assumption) ?_ | refine x_d0 (by assumption) ?_ | refine x_d1 (by assumption) ?_ | refine x_d2 (by assumption) ?_ | refine x_d3 (by assumption) ?_ | refine x_d0 tupd_same ?_ | refine x_d1 tupd_same ?_ | refine x_d2 tupd_same ?_ | refine x_d3 tupd_same ?_ | refine d_go4 ?_ | refine r_bl ?_ | refine r_bl4 (by assumption) ?_ | refine r_bl4 tupd_same ?_ | refine m_min ?_ | refine m_max ?_ | refine m_abs ?_ | refine x_t0 ?_ | refine x_t1 ?_ | refine x_t2 ?_) | (refine len_go ?_ ?_; · (simp; done)) | (refine o_mod ?_ ?_; · (first | decide | omega)) | (refine o_pow ⟨by decide, by decide, by decide⟩ ?_) | (refine o_mul (cmul ?_ ?_ ?_ ?_) ?_; (· omega); (· omega); (· omega); (· omega)) | (refine o_div (cdiv ?_ ?_) ?_; (· omega); (· omega)) | (refine if_tc ?_ ?_; · (first | rfl | (simp; done) | (simp; omega))) | (refine if_fc ?_ ?_; · (first | rfl | (simp; done) | (simp; omega))))
    refine bl_of (h _ f2) ?_
    rw [ht]
def sp_law : TSp := fun vs H _ Q => ∃ ns : List Int, vs = [.rol (ns.map TV.int)] ∧ ns.length ≤ 63 ∧ ∀ H', Q (.bl true) H'
def G_law : GE := gOf [("_law_begin", sp_Lbegin), ("_law_made", sp_Lmade), ("_law_twin", sp_Ltwin), ("_law_odd", sp_Lodd), ("_law_is_so", sp_Lis_so), ("is_taker", sp_is_taker), ("_law_said", sp_Lsaid)] [] []
theorem c_law_Lbegin : G_law.fn "_law_begin" = some (sp_Lbegin) := by kernel_rfl
theorem c_law_Lmade : G_law.fn "_law_made" = some (sp_Lmade) := by kernel_rfl
theorem c_law_Ltwin : G_law.fn "_law_twin" = some (sp_Ltwin) := by kernel_rfl
theorem c_law_Lodd : G_law.fn "_law_odd" = some (sp_Lodd) := by kernel_rfl
theorem c_law_Lis_so : G_law.fn "_law_is_so" = some (sp_Lis_so) := by kernel_rfl
theorem c_law_is_taker : G_law.fn "is_taker" = some (sp_is_taker) := by kernel_rfl
theorem c_law_Lsaid : G_law.fn "_law_said" = some (sp_Lsaid) := by kernel_rfl
theorem w_law_Lbegin {w : Nat → WP} {n : Nat} {σ : TSt} {H : TH} {E : TX} {Q : TQ} {p pos : Pos} {es : List Expr} (hw : Steps w) (h : argsW ((w n).e S_law G_law) es σ H E fun xs H1 => sp_Lbegin xs H1 E Q) (hi : noIsi "_law_begin" es = true := by decide +kernel) (hs : noStars es = true := by decide +kernel) : (w (n + 1)).e S_law G_law (.Call (.Name "_law_begin" p) es [] pos) σ H E Q := e_call hw g_law_Lbegin (by kernel_rfl) hi c_law_Lbegin hs h
theorem w_law_Lmade {w : Nat → WP} {n : Nat} {σ : TSt} {H : TH} {E : TX} {Q : TQ} {p pos : Pos} {es : List Expr} (hw : Steps w) (h : argsW ((w n).e S_law G_law) es σ H E fun xs H1 => sp_Lmade xs H1 E Q) (hi : noIsi "_law_made" es = true := by decide +kernel) (hs : noStars es = true := by decide +kernel) : (w (n + 1)).e S_law G_law (.Call (.Name "_law_made" p) es [] pos) σ H E Q := e_call hw g_law_Lmade (by kernel_rfl) hi c_law_Lmade hs h
theorem w_law_Ltwin {w : Nat → WP} {n : Nat} {σ : TSt} {H : TH} {E : TX} {Q : TQ} {p pos : Pos} {es : List Expr} (hw : Steps w) (h : argsW ((w n).e S_law G_law) es σ H E fun xs H1 => sp_Ltwin xs H1 E Q) (hi : noIsi "_law_twin" es = true := by decide +kernel) (hs : noStars es = true := by decide +kernel) : (w (n + 1)).e S_law G_law (.Call (.Name "_law_twin" p) es [] pos) σ H E Q := e_call hw g_law_Ltwin (by kernel_rfl) hi c_law_Ltwin hs h
theorem w_law_Lodd {w : Nat → WP} {n : Nat} {σ : TSt} {H : TH} {E : TX} {Q : TQ} {p pos : Pos} {es : List Expr} (hw : Steps w) (h : argsW ((w n).e S_law G_law) es σ H E fun xs H1 => sp_Lodd xs H1 E Q) (hi : noIsi "_law_odd" es = true := by decide +kernel) (hs : noStars es = true := by decide +kernel) : (w (n + 1)).e S_law G_law (.Call (.Name "_law_odd" p) es [] pos) σ H E Q := e_call hw g_law_Lodd (by kernel_rfl) hi c_law_Lodd hs h
theorem w_law_Lis_so {w : Nat → WP} {n : Nat} {σ : TSt} {H : TH} {E : TX} {Q : TQ} {p pos : Pos} {es : List Expr} (hw : Steps w) (h : argsW ((w n).e S_law G_law) es σ H E fun xs H1 => sp_Lis_so xs H1 E Q) (hi : noIsi "_law_is_so" es = true := by decide +kernel) (hs : noStars es = true := by decide +kernel) : (w (n + 1)).e S_law G_law (.Call (.Name "_law_is_so" p) es [] pos) σ H E Q := e_call hw g_law_Lis_so (by kernel_rfl) hi c_law_Lis_so hs h
theorem w_law_is_taker {w : Nat → WP} {n : Nat} {σ : TSt} {H : TH} {E : TX} {Q : TQ} {p pos : Pos} {es : List Expr} (hw : Steps w) (h : argsW ((w n).e S_law G_law) es σ H E fun xs H1 => sp_is_taker xs H1 E Q) (hi : noIsi "is_taker" es = true := by decide +kernel) (hs : noStars es = true := by decide +kernel) : (w (n + 1)).e S_law G_law (.Call (.Name "is_taker" p) es [] pos) σ H E Q := e_call hw g_law_is_taker (by kernel_rfl) hi c_law_is_taker hs h
theorem w_law_Lsaid {w : Nat → WP} {n : Nat} {σ : TSt} {H : TH} {E : TX} {Q : TQ} {p pos : Pos} {es : List Expr} (hw : Steps w) (h : argsW ((w n).e S_law G_law) es σ H E fun xs H1 => sp_Lsaid xs H1 E Q) (hi : noIsi "_law_said" es = true := by decide +kernel) (hs : noStars es = true := by decide +kernel) : (w (n + 1)).e S_law G_law (.Call (.Name "_law_said" p) es [] pos) σ H E Q := e_call hw g_law_Lsaid (by kernel_rfl) hi c_law_Lsaid hs h
theorem bd_law {w : Nat → WP} (hw : Steps w) {v0 : TV} {H : TH} {E : TX} {Q : TQ} (h : sp_law [v0] H E Q) : blockW ((w 40).s S_law G_law) (defBody st_law) ⟨fun _ H => Q .non H, Q, fun _ _ => False, fun _ _ => False, fun e _ H => E e H⟩ [some v0, none, none, none, none, none, none, none] H := by
  obtain ⟨ns, e, hl, h⟩ := h
  cases e
  refine b_cons ?_
  have ub : ∀ (E : TX) (Q : TQ), (∀ d H', Drw d 0 H' → Q (.ref d) H') → sp_Lbegin [.rol (ns.map TV.int)] H E Q := fun E Q h => ⟨ns, rfl, hl, h⟩
  repeat (first | (with_reducible first | refine ub _ _ ?_ | (refine isE ?_; first | refine x_law_0 hw ?_ | refine x_law_1 hw ?_ | refine x_law_2 hw ?_ | refine x_law_3 hw ?_ | refine x_law_4 hw ?_ | refine x_law_5 hw ?_ | refine x_law_6 hw ?_ | refine x_law_7 hw ?_ | refine w_law_Lbegin hw ?_ | refine e_bf hw g_law_min b_min (by decide +kernel) (by decide +kernel) ?_ | refine e_bf hw g_law_len b_len (by decide +kernel) (by decide +kernel) ?_ | refine w_law_Lmade hw ?_ | refine w_law_Ltwin hw ?_ | refine w_law_Lodd hw ?_ | refine w_law_Lis_so hw ?_ | refine w_law_is_taker hw ?_ | refine w_law_Lsaid hw ?_ | refine e_none hw ?_ | refine e_bool hw ?_ | refine e_int hw ?_ | refine e_str hw ?_ | refine e_bin hw ?_ | refine e_una hw ?_ | refine e_and hw ?_ | refine e_or hw ?_ | refine e_ife hw ?_ | refine e_cmp hw ?_ | refine e_cmp2 hw ?_ | refine e_sub hw ?_ | refine e_sl hw ?_ | refine e_tup hw ?_ | refine e_lst hw ?_ | refine e_dct hw ?_ | refine e_isi hw g_law_isinstance g_law_bool nm_bool (by decide) (by decide +kernel) ?_) | (refine isT ?_; first | refine t_not hw ?_ | refine t_and hw ?_ | refine t_or hw ?_ | refine t_cmp hw ?_ | refine t_cmp2 hw ?_ | refine t_name hw ?_ | refine t_call hw ?_ | refine t_sub hw ?_) | (refine isS ?_; first | refine s_ret' hw ?_ | refine s_pass' hw ?_ | refine s_brk' hw ?_ | refine s_cnt' hw ?_ | refine s_exp' hw ?_ | refine s_if' hw ?_ | refine s_put' hw ?_ | refine s_for' hw ?_ (hc := cm_law) | refine y_law_0 hw ?_ | refine y_law_1 hw ?_ | refine y_law_2 hw ?_ | refine y_law_3 hw ?_ | refine y_law_4 hw ?_ | refine y_law_5 hw ?_ | refine y_law_6 hw ?_ | refine y_law_7 hw ?_) | (refine isG ?_; first | refine g_sb hw ?_ (hc := cm_law) | refine g_tp2 hw ?_ (hc := cm_law) | refine z_law_0 hw ?_ | refine z_law_1 hw ?_ | refine z_law_2 hw ?_ | refine z_law_3 hw ?_ | refine z_law_4 hw ?_ | refine z_law_5 hw ?_ | refine z_law_6 hw ?_ | refine z_law_7 hw ?_) | (refine isI ?_; first | refine i_range1' hw g_law_range ?_ | refine i_name hw ?_ | refine i_tup' hw ?_ | refine i_lst' hw ?_) | refine e_and1 ?_ | refine e_and2 ?_ | refine e_or1 ?_ | refine e_or2 ?_ | refine o_none ?_ | refine o_some ?_ | refine p_nil ?_ | refine p_cons ?_ | refine a_nil ?_ | refine a_cons ?_ | refine t_and1 ?_ | refine t_and2 ?_ | refine t_or1 ?_ | refine t_or2 ?_ | refine k_bl ?_ | refine k_int ?_ | refine nd_tru ?_ | refine if_t ?_ | refine if_f ?_ | refine b_nil ?_ | refine b_cons ?_ | refine g_nil ?_ | refine g_cons ?_ | refine o_add ?_ | refine o_sub ?_ | refine o_neg ?_ | refine o_nt ?_ | refine c_lt ?_ | refine c_le ?_ | refine c_gt ?_ | refine c_ge ?_ | refine c_eqI ?_ | refine c_eqS ?_ | refine c_neS ?_ | refine c_neI ?_ | refine c_eqB ?_ | refine if_tc (by decide +kernel) ?_ | refine if_fc (by decide +kernel) ?_ | refine ne_c ?_ | refine isi_non_bool ?_ | refine isi_bl_bool ?_ | refine isi_int_bool ?_ | refine isi_str_bool ?_ | refine isi_tup_bool ?_ | refine isi_rol_bool ?_ | refine isi_ref (by assumption) (by decide) ?_ | refine c_leB1 ?_ | refine c_leB2 ?_ | refine c_neB ?_ | refine c_eqBI ?_ | refine c_isN ?_ | refine c_isNN ?_ | refine c_in2 ?_ | refine c_in3 ?_ | refine c_in4 ?_ | refine c_in5 ?_ | refine c_ni2 ?_ | refine c_ni4 ?_ | refine c_ni5 ?_ | refine c_eqT0 ?_ | refine c_eqT1 ?_ | refine l_tup ?_ | refine l_rol ?_ | refine l_ref (by assumption) ?_ | refine x_d0 (by assumption) ?_ | refine x_d1 (by assumption) ?_ | refine x_d2 (by assumption) ?_ | refine x_d3 (by assumption) ?_ | refine x_d0 tupd_same ?_ | refine x_d1 tupd_same ?_ | refine x_d2 tupd_same ?_ | refine x_d3 tupd_same ?_ | refine d_go4 ?_ | refine r_bl ?_ | refine r_bl4 (by assumption) ?_ | refine r_bl4 tupd_same ?_ | refine m_min ?_ | refine m_max ?_ | refine m_abs ?_ | refine x_t0 ?_ | refine x_t1 ?_ | refine x_t2 ?_) | (refine len_go ?_ ?_; · (simp; done)) | (refine o_mod ?_ ?_; · (first | decide | omega)) | (refine o_pow ⟨by decide, by decide, by decide⟩ ?_) | (refine o_mul (cmul ?_ ?_ ?_ ?_) ?_; (· omega); (· omega); (· omega); (· omega)) | (refine o_div (cdiv ?_ ?_) ?_; (· omega); (· omega)) | (refine if_tc ?_ ?_; · (first | rfl | (simp; done) | (simp; omega))) | (refine if_fc ?_ ?_; · (first | rfl | (simp; done) | (simp; omega))))
  intro d H0 hd0
  have lm : (ns.map TV.int).length = ns.length := List.length_map _
  repeat (first | (with_reducible first | (refine isE ?_; first | refine x_law_0 hw ?_ | refine x_law_1 hw ?_ | refine x_law_2 hw ?_ | refine x_law_3 hw ?_ | refine x_law_4 hw ?_ | refine x_law_5 hw ?_ | refine x_law_6 hw ?_ | refine x_law_7 hw ?_ | refine w_law_Lbegin hw ?_ | refine e_bf hw g_law_min b_min (by decide +kernel) (by decide +kernel) ?_ | refine e_bf hw g_law_len b_len (by decide +kernel) (by decide +kernel) ?_ | refine w_law_Lmade hw ?_ | refine w_law_Ltwin hw ?_ | refine w_law_Lodd hw ?_ | refine w_law_Lis_so hw ?_ | refine w_law_is_taker hw ?_ | refine w_law_Lsaid hw ?_ | refine e_none hw ?_ | refine e_bool hw ?_ | refine e_int hw ?_ | refine e_str hw ?_ | refine e_bin hw ?_ | refine e_una hw ?_ | refine e_and hw ?_ | refine e_or hw ?_ | refine e_ife hw ?_ | refine e_cmp hw ?_ | refine e_cmp2 hw ?_ | refine e_sub hw ?_ | refine e_sl hw ?_ | refine e_tup hw ?_ | refine e_lst hw ?_ | refine e_dct hw ?_ | refine e_isi hw g_law_isinstance g_law_bool nm_bool (by decide) (by decide +kernel) ?_) | (refine isT ?_; first | refine t_not hw ?_ | refine t_and hw ?_ | refine t_or hw ?_ | refine t_cmp hw ?_ | refine t_cmp2 hw ?_ | refine t_name hw ?_ | refine t_call hw ?_ | refine t_sub hw ?_) | (refine isS ?_; first | refine s_ret' hw ?_ | refine s_pass' hw ?_ | refine s_brk' hw ?_ | refine s_cnt' hw ?_ | refine s_exp' hw ?_ | refine s_if' hw ?_ | refine s_put' hw ?_ | refine s_for' hw ?_ (hc := cm_law) | refine y_law_0 hw ?_ | refine y_law_1 hw ?_ | refine y_law_2 hw ?_ | refine y_law_3 hw ?_ | refine y_law_4 hw ?_ | refine y_law_5 hw ?_ | refine y_law_6 hw ?_ | refine y_law_7 hw ?_) | (refine isG ?_; first | refine g_sb hw ?_ (hc := cm_law) | refine g_tp2 hw ?_ (hc := cm_law) | refine z_law_0 hw ?_ | refine z_law_1 hw ?_ | refine z_law_2 hw ?_ | refine z_law_3 hw ?_ | refine z_law_4 hw ?_ | refine z_law_5 hw ?_ | refine z_law_6 hw ?_ | refine z_law_7 hw ?_) | (refine isI ?_; first | refine i_range1' hw g_law_range ?_ | refine i_name hw ?_ | refine i_tup' hw ?_ | refine i_lst' hw ?_) | refine e_and1 ?_ | refine e_and2 ?_ | refine e_or1 ?_ | refine e_or2 ?_ | refine o_none ?_ | refine o_some ?_ | refine p_nil ?_ | refine p_cons ?_ | refine a_nil ?_ | refine a_cons ?_ | refine t_and1 ?_ | refine t_and2 ?_ | refine t_or1 ?_ | refine t_or2 ?_ | refine k_bl ?_ | refine k_int ?_ | refine nd_tru ?_ | refine if_t ?_ | refine if_f ?_ | refine b_nil ?_ | refine b_cons ?_ | refine g_nil ?_ | refine g_cons ?_ | refine o_add ?_ | refine o_sub ?_ | refine o_neg ?_ | refine o_nt ?_ | refine c_lt ?_ | refine c_le ?_ | refine c_gt ?_ | refine c_ge ?_ | refine c_eqI ?_ | refine c_eqS ?_ | refine c_neS ?_ | refine c_neI ?_ | refine c_eqB ?_ | refine if_tc (by decide +kernel) ?_ | refine if_fc (by decide +kernel) ?_ | refine ne_c ?_ | refine isi_non_bool ?_ | refine isi_bl_bool ?_ | refine isi_int_bool ?_ | refine isi_str_bool ?_ | refine isi_tup_bool ?_ | refine isi_rol_bool ?_ | refine isi_ref (by assumption) (by decide) ?_ | refine c_leB1 ?_ | refine c_leB2 ?_ | refine c_neB ?_ | refine c_eqBI ?_ | refine c_isN ?_ | refine c_isNN ?_ | refine c_in2 ?_ | refine c_in3 ?_ | refine c_in4 ?_ | refine c_in5 ?_ | refine c_ni2 ?_ | refine c_ni4 ?_ | refine c_ni5 ?_ | refine c_eqT0 ?_ | refine c_eqT1 ?_ | refine l_tup ?_ | refine l_rol ?_ | refine l_ref (by assumption) ?_ | refine x_d0 (by assumption) ?_ | refine x_d1 (by assumption) ?_ | refine x_d2 (by assumption) ?_ | refine x_d3 (by assumption) ?_ | refine x_d0 tupd_same ?_ | refine x_d1 tupd_same ?_ | refine x_d2 tupd_same ?_ | refine x_d3 tupd_same ?_ | refine d_go4 ?_ | refine r_bl ?_ | refine r_bl4 (by assumption) ?_ | refine r_bl4 tupd_same ?_ | refine m_min ?_ | refine m_max ?_ | refine m_abs ?_ | refine x_t0 ?_ | refine x_t1 ?_ | refine x_t2 ?_) | (refine len_go ?_ ?_; · (simp; done)) | (refine o_mod ?_ ?_; · (first | decide | omega)) | (refine o_pow ⟨by decide, by decide, by decide⟩ ?_) | (refine o_mul (cmul ?_ ?_ ?_ ?_) ?_; (· omega); (· omega); (· omega); (· omega)) | (refine o_div (cdiv ?_ ?_) ?_; (· omega); (· omega)) | (refine if_tc ?_ ?_; · (first | rfl | (simp; done) | (simp; omega))) | (refine if_fc ?_ ?_; · (first | rfl | (simp; done) | (simp; omega))))
  refine rg1 (by split <;> omega) (by split <;> omega) ?_
  refine for_n (N := 65) (I := fun k σ H' => Drw d (100 * (k : Int)) H' ∧ ∃ o2 o3 o4 o5 o6 o7, σ = [some (.rol (ns.map TV.int)), some (.ref d), o2, o3, o4, o5, o6, o7]) (P := fun v => ∃ i, v = .int i) (fun k v σ H1 D' hk hv hi hD => ?_) _ 0 _ _ ?_ ?_ ⟨by simpa using hd0, _, _, _, _, _, _, rfl⟩ fun j σ H1 hi => ?_
  · obtain ⟨hd1, o2, o3, o4, o5, o6, o7, rfl⟩ := hi
    repeat (first | (with_reducible first | (refine isE ?_; first | refine x_law_0 hw ?_ | refine x_law_1 hw ?_ | refine x_law_2 hw ?_ | refine x_law_3 hw ?_ | refine x_law_4 hw ?_ | refine x_law_5 hw ?_ | refine x_law_6 hw ?_ | refine x_law_7 hw ?_ | refine w_law_Lbegin hw ?_ | refine e_bf hw g_law_min b_min (by decide +kernel) (by decide +kernel) ?_ | refine e_bf hw g_law_len b_len (by decide +kernel) (by decide +kernel) ?_ | refine w_law_Lmade hw ?_ | refine w_law_Ltwin hw ?_ | refine w_law_Lodd hw ?_ | refine w_law_Lis_so hw ?_ | refine w_law_is_taker hw ?_ | refine w_law_Lsaid hw ?_ | refine e_none hw ?_ | refine e_bool hw ?_ | refine e_int hw ?_ | refine e_str hw ?_ | refine e_bin hw ?_ | refine e_una hw ?_ | refine e_and hw ?_ | refine e_or hw ?_ | refine e_ife hw ?_ | refine e_cmp hw ?_ | refine e_cmp2 hw ?_ | refine e_sub hw ?_ | refine e_sl hw ?_ | refine e_tup hw ?_ | refine e_lst hw ?_ | refine e_dct hw ?_ | refine e_isi hw g_law_isinstance g_law_bool nm_bool (by decide) (by decide +kernel) ?_) | (refine isT ?_; first | refine t_not hw ?_ | refine t_and hw ?_ | refine t_or hw ?_ | refine t_cmp hw ?_ | refine t_cmp2 hw ?_ | refine t_name hw ?_ | refine t_call hw ?_ | refine t_sub hw ?_) | (refine isS ?_; first | refine s_ret' hw ?_ | refine s_pass' hw ?_ | refine s_brk' hw ?_ | refine s_cnt' hw ?_ | refine s_exp' hw ?_ | refine s_if' hw ?_ | refine s_put' hw ?_ | refine s_for' hw ?_ (hc := cm_law) | refine y_law_0 hw ?_ | refine y_law_1 hw ?_ | refine y_law_2 hw ?_ | refine y_law_3 hw ?_ | refine y_law_4 hw ?_ | refine y_law_5 hw ?_ | refine y_law_6 hw ?_ | refine y_law_7 hw ?_) | (refine isG ?_; first | refine g_sb hw ?_ (hc := cm_law) | refine g_tp2 hw ?_ (hc := cm_law) | refine z_law_0 hw ?_ | refine z_law_1 hw ?_ | refine z_law_2 hw ?_ | refine z_law_3 hw ?_ | refine z_law_4 hw ?_ | refine z_law_5 hw ?_ | refine z_law_6 hw ?_ | refine z_law_7 hw ?_) | (refine isI ?_; first | refine i_range1' hw g_law_range ?_ | refine i_name hw ?_ | refine i_tup' hw ?_ | refine i_lst' hw ?_) | refine e_and1 ?_ | refine e_and2 ?_ | refine e_or1 ?_ | refine e_or2 ?_ | refine o_none ?_ | refine o_some ?_ | refine p_nil ?_ | refine p_cons ?_ | refine a_nil ?_ | refine a_cons ?_ | refine t_and1 ?_ | refine t_and2 ?_ | refine t_or1 ?_ | refine t_or2 ?_ | refine k_bl ?_ | refine k_int ?_ | refine nd_tru ?_ | refine if_t ?_ | refine if_f ?_ | refine b_nil ?_ | refine b_cons ?_ | refine g_nil ?_ | refine g_cons ?_ | refine o_add ?_ | refine o_sub ?_ | refine o_neg ?_ | refine o_nt ?_ | refine c_lt ?_ | refine c_le ?_ | refine c_gt ?_ | refine c_ge ?_ | refine c_eqI ?_ | refine c_eqS ?_ | refine c_neS ?_ | refine c_neI ?_ | refine c_eqB ?_ | refine if_tc (by decide +kernel) ?_ | refine if_fc (by decide +kernel) ?_ | refine ne_c ?_ | refine isi_non_bool ?_ | refine isi_bl_bool ?_ | refine isi_int_bool ?_ | refine isi_str_bool ?_ | refine isi_tup_bool ?_ | refine isi_rol_bool ?_ | refine isi_ref (by assumption) (by decide) ?_ | refine c_leB1 ?_ | refine c_leB2 ?_ | refine c_neB ?_ | refine c_eqBI ?_ | refine c_isN ?_ | refine c_isNN ?_ | refine c_in2 ?_ | refine c_in3 ?_ | refine c_in4 ?_ | refine c_in5 ?_ | refine c_ni2 ?_ | refine c_ni4 ?_ | refine c_ni5 ?_ | refine c_eqT0 ?_ | refine c_eqT1 ?_ | refine l_tup ?_ | refine l_rol ?_ | refine l_ref (by assumption) ?_ | refine x_d0 (by assumption) ?_ | refine x_d1 (by assumption) ?_ | refine x_d2 (by assumption) ?_ | refine x_d3 (by assumption) ?_ | refine x_d0 tupd_same ?_ | refine x_d1 tupd_same ?_ | refine x_d2 tupd_same ?_ | refine x_d3 tupd_same ?_ | refine d_go4 ?_ | refine r_bl ?_ | refine r_bl4 (by assumption) ?_ | refine r_bl4 tupd_same ?_ | refine m_min ?_ | refine m_max ?_ | refine m_abs ?_ | refine x_t0 ?_ | refine x_t1 ?_ | refine x_t2 ?_) | (refine len_go ?_ ?_; · (simp; done)) | (refine o_mod ?_ ?_; · (first | decide | omega)) | (refine o_pow ⟨by decide, by decide, by decide⟩ ?_) | (refine o_mul (cmul ?_ ?_ ?_ ?_) ?_; (· omega); (· omega); (· omega); (· omega)) | (refine o_div (cdiv ?_ ?_) ?_; (· omega); (· omega)) | (refine if_tc ?_ ?_; · (first | rfl | (simp; done) | (simp; omega))) | (refine if_fc ?_ ?_; · (first | rfl | (simp; done) | (simp; omega))))
    refine u_made hd1 (by omega) (by omega) fun x H2 hx hd2 f2 => ?_
    repeat (first | (with_reducible first | (refine isE ?_; first | refine x_law_0 hw ?_ | refine x_law_1 hw ?_ | refine x_law_2 hw ?_ | refine x_law_3 hw ?_ | refine x_law_4 hw ?_ | refine x_law_5 hw ?_ | refine x_law_6 hw ?_ | refine x_law_7 hw ?_ | refine w_law_Lbegin hw ?_ | refine e_bf hw g_law_min b_min (by decide +kernel) (by decide +kernel) ?_ | refine e_bf hw g_law_len b_len (by decide +kernel) (by decide +kernel) ?_ | refine w_law_Lmade hw ?_ | refine w_law_Ltwin hw ?_ | refine w_law_Lodd hw ?_ | refine w_law_Lis_so hw ?_ | refine w_law_is_taker hw ?_ | refine w_law_Lsaid hw ?_ | refine e_none hw ?_ | refine e_bool hw ?_ | refine e_int hw ?_ | refine e_str hw ?_ | refine e_bin hw ?_ | refine e_una hw ?_ | refine e_and hw ?_ | refine e_or hw ?_ | refine e_ife hw ?_ | refine e_cmp hw ?_ | refine e_cmp2 hw ?_ | refine e_sub hw ?_ | refine e_sl hw ?_ | refine e_tup hw ?_ | refine e_lst hw ?_ | refine e_dct hw ?_ | refine e_isi hw g_law_isinstance g_law_bool nm_bool (by decide) (by decide +kernel) ?_) | (refine isT ?_; first | refine t_not hw ?_ | refine t_and hw ?_ | refine t_or hw ?_ | refine t_cmp hw ?_ | refine t_cmp2 hw ?_ | refine t_name hw ?_ | refine t_call hw ?_ | refine t_sub hw ?_) | (refine isS ?_; first | refine s_ret' hw ?_ | refine s_pass' hw ?_ | refine s_brk' hw ?_ | refine s_cnt' hw ?_ | refine s_exp' hw ?_ | refine s_if' hw ?_ | refine s_put' hw ?_ | refine s_for' hw ?_ (hc := cm_law) | refine y_law_0 hw ?_ | refine y_law_1 hw ?_ | refine y_law_2 hw ?_ | refine y_law_3 hw ?_ | refine y_law_4 hw ?_ | refine y_law_5 hw ?_ | refine y_law_6 hw ?_ | refine y_law_7 hw ?_) | (refine isG ?_; first | refine g_sb hw ?_ (hc := cm_law) | refine g_tp2 hw ?_ (hc := cm_law) | refine z_law_0 hw ?_ | refine z_law_1 hw ?_ | refine z_law_2 hw ?_ | refine z_law_3 hw ?_ | refine z_law_4 hw ?_ | refine z_law_5 hw ?_ | refine z_law_6 hw ?_ | refine z_law_7 hw ?_) | (refine isI ?_; first | refine i_range1' hw g_law_range ?_ | refine i_name hw ?_ | refine i_tup' hw ?_ | refine i_lst' hw ?_) | refine e_and1 ?_ | refine e_and2 ?_ | refine e_or1 ?_ | refine e_or2 ?_ | refine o_none ?_ | refine o_some ?_ | refine p_nil ?_ | refine p_cons ?_ | refine a_nil ?_ | refine a_cons ?_ | refine t_and1 ?_ | refine t_and2 ?_ | refine t_or1 ?_ | refine t_or2 ?_ | refine k_bl ?_ | refine k_int ?_ | refine nd_tru ?_ | refine if_t ?_ | refine if_f ?_ | refine b_nil ?_ | refine b_cons ?_ | refine g_nil ?_ | refine g_cons ?_ | refine o_add ?_ | refine o_sub ?_ | refine o_neg ?_ | refine o_nt ?_ | refine c_lt ?_ | refine c_le ?_ | refine c_gt ?_ | refine c_ge ?_ | refine c_eqI ?_ | refine c_eqS ?_ | refine c_neS ?_ | refine c_neI ?_ | refine c_eqB ?_ | refine if_tc (by decide +kernel) ?_ | refine if_fc (by decide +kernel) ?_ | refine ne_c ?_ | refine isi_non_bool ?_ | refine isi_bl_bool ?_ | refine isi_int_bool ?_ | refine isi_str_bool ?_ | refine isi_tup_bool ?_ | refine isi_rol_bool ?_ | refine isi_ref (by assumption) (by decide) ?_ | refine c_leB1 ?_ | refine c_leB2 ?_ | refine c_neB ?_ | refine c_eqBI ?_ | refine c_isN ?_ | refine c_isNN ?_ | refine c_in2 ?_ | refine c_in3 ?_ | refine c_in4 ?_ | refine c_in5 ?_ | refine c_ni2 ?_ | refine c_ni4 ?_ | refine c_ni5 ?_ | refine c_eqT0 ?_ | refine c_eqT1 ?_ | refine l_tup ?_ | refine l_rol ?_ | refine l_ref (by assumption) ?_ | refine x_d0 (by assumption) ?_ | refine x_d1 (by assumption) ?_ | refine x_d2 (by assumption) ?_ | refine x_d3 (by assumption) ?_ | refine x_d0 tupd_same ?_ | refine x_d1 tupd_same ?_ | refine x_d2 tupd_same ?_ | refine x_d3 tupd_same ?_ | refine d_go4 ?_ | refine r_bl ?_ | refine r_bl4 (by assumption) ?_ | refine r_bl4 tupd_same ?_ | refine m_min ?_ | refine m_max ?_ | refine m_abs ?_ | refine x_t0 ?_ | refine x_t1 ?_ | refine x_t2 ?_) | (refine len_go ?_ ?_; · (simp; done)) | (refine o_mod ?_ ?_; · (first | decide | omega)) | (refine o_pow ⟨by decide, by decide, by decide⟩ ?_) | (refine o_mul (cmul ?_ ?_ ?_ ?_) ?_; (· omega); (· omega); (· omega); (· omega)) | (refine o_div (cdiv ?_ ?_) ?_; (· omega); (· omega)) | (refine if_tc ?_ ?_; · (first | rfl | (simp; done) | (simp; omega))) | (refine if_fc ?_ ?_; · (first | rfl | (simp; done) | (simp; omega))))
    refine ⟨x, rfl, hx, fun y H3 hy f3 => ?_⟩
    repeat (first | (with_reducible first | (refine isE ?_; first | refine x_law_0 hw ?_ | refine x_law_1 hw ?_ | refine x_law_2 hw ?_ | refine x_law_3 hw ?_ | refine x_law_4 hw ?_ | refine x_law_5 hw ?_ | refine x_law_6 hw ?_ | refine x_law_7 hw ?_ | refine w_law_Lbegin hw ?_ | refine e_bf hw g_law_min b_min (by decide +kernel) (by decide +kernel) ?_ | refine e_bf hw g_law_len b_len (by decide +kernel) (by decide +kernel) ?_ | refine w_law_Lmade hw ?_ | refine w_law_Ltwin hw ?_ | refine w_law_Lodd hw ?_ | refine w_law_Lis_so hw ?_ | refine w_law_is_taker hw ?_ | refine w_law_Lsaid hw ?_ | refine e_none hw ?_ | refine e_bool hw ?_ | refine e_int hw ?_ | refine e_str hw ?_ | refine e_bin hw ?_ | refine e_una hw ?_ | refine e_and hw ?_ | refine e_or hw ?_ | refine e_ife hw ?_ | refine e_cmp hw ?_ | refine e_cmp2 hw ?_ | refine e_sub hw ?_ | refine e_sl hw ?_ | refine e_tup hw ?_ | refine e_lst hw ?_ | refine e_dct hw ?_ | refine e_isi hw g_law_isinstance g_law_bool nm_bool (by decide) (by decide +kernel) ?_) | (refine isT ?_; first | refine t_not hw ?_ | refine t_and hw ?_ | refine t_or hw ?_ | refine t_cmp hw ?_ | refine t_cmp2 hw ?_ | refine t_name hw ?_ | refine t_call hw ?_ | refine t_sub hw ?_) | (refine isS ?_; first | refine s_ret' hw ?_ | refine s_pass' hw ?_ | refine s_brk' hw ?_ | refine s_cnt' hw ?_ | refine s_exp' hw ?_ | refine s_if' hw ?_ | refine s_put' hw ?_ | refine s_for' hw ?_ (hc := cm_law) | refine y_law_0 hw ?_ | refine y_law_1 hw ?_ | refine y_law_2 hw ?_ | refine y_law_3 hw ?_ | refine y_law_4 hw ?_ | refine y_law_5 hw ?_ | refine y_law_6 hw ?_ | refine y_law_7 hw ?_) | (refine isG ?_; first | refine g_sb hw ?_ (hc := cm_law) | refine g_tp2 hw ?_ (hc := cm_law) | refine z_law_0 hw ?_ | refine z_law_1 hw ?_ | refine z_law_2 hw ?_ | refine z_law_3 hw ?_ | refine z_law_4 hw ?_ | refine z_law_5 hw ?_ | refine z_law_6 hw ?_ | refine z_law_7 hw ?_) | (refine isI ?_; first | refine i_range1' hw g_law_range ?_ | refine i_name hw ?_ | refine i_tup' hw ?_ | refine i_lst' hw ?_) | refine e_and1 ?_ | refine e_and2 ?_ | refine e_or1 ?_ | refine e_or2 ?_ | refine o_none ?_ | refine o_some ?_ | refine p_nil ?_ | refine p_cons ?_ | refine a_nil ?_ | refine a_cons ?_ | refine t_and1 ?_ | refine t_and2 ?_ | refine t_or1 ?_ | refine t_or2 ?_ | refine k_bl ?_ | refine k_int ?_ | refine nd_tru ?_ | refine if_t ?_ | refine if_f ?_ | refine b_nil ?_ | refine b_cons ?_ | refine g_nil ?_ | refine g_cons ?_ | refine o_add ?_ | refine o_sub ?_ | refine o_neg ?_ | refine o_nt ?_ | refine c_lt ?_ | refine c_le ?_ | refine c_gt ?_ | refine c_ge ?_ | refine c_eqI ?_ | refine c_eqS ?_ | refine c_neS ?_ | refine c_neI ?_ | refine c_eqB ?_ | refine if_tc (by decide +kernel) ?_ | refine if_fc (by decide +kernel) ?_ | refine ne_c ?_ | refine isi_non_bool ?_ | refine isi_bl_bool ?_ | refine isi_int_bool ?_ | refine isi_str_bool ?_ | refine isi_tup_bool ?_ | refine isi_rol_bool ?_ | refine isi_ref (by assumption) (by decide) ?_ | refine c_leB1 ?_ | refine c_leB2 ?_ | refine c_neB ?_ | refine c_eqBI ?_ | refine c_isN ?_ | refine c_isNN ?_ | refine c_in2 ?_ | refine c_in3 ?_ | refine c_in4 ?_ | refine c_in5 ?_ | refine c_ni2 ?_ | refine c_ni4 ?_ | refine c_ni5 ?_ | refine c_eqT0 ?_ | refine c_eqT1 ?_ | refine l_tup ?_ | refine l_rol ?_ | refine l_ref (by assumption) ?_ | refine x_d0 (by assumption) ?_ | refine x_d1 (by assumption) ?_ | refine x_d2 (by assumption) ?_ | refine x_d3 (by assumption) ?_ | refine x_d0 tupd_same ?_ | refine x_d1 tupd_same ?_ | refine x_d2 tupd_same ?_ | refine x_d3 tupd_same ?_ | refine d_go4 ?_ | refine r_bl ?_ | refine r_bl4 (by assumption) ?_ | refine r_bl4 tupd_same ?_ | refine m_min ?_ | refine m_max ?_ | refine m_abs ?_ | refine x_t0 ?_ | refine x_t1 ?_ | refine x_t2 ?_) | (refine len_go ?_ ?_; · (simp; done)) | (refine o_mod ?_ ?_; · (first | decide | omega)) | (refine o_pow ⟨by decide, by decide, by decide⟩ ?_) | (refine o_mul (cmul ?_ ?_ ?_ ?_) ?_; (· omega); (· omega); (· omega); (· omega)) | (refine o_div (cdiv ?_ ?_) ?_; (· omega); (· omega)) | (refine if_tc ?_ ?_; · (first | rfl | (simp; done) | (simp; omega))) | (refine if_fc ?_ ?_; · (first | rfl | (simp; done) | (simp; omega))))
    have hd3 := hd2.fr f3
    refine u_made hd3 (by omega) (by omega) fun z H4 hz hd4 f4 => ?_
    repeat (first | (with_reducible first | (refine isE ?_; first | refine x_law_0 hw ?_ | refine x_law_1 hw ?_ | refine x_law_2 hw ?_ | refine x_law_3 hw ?_ | refine x_law_4 hw ?_ | refine x_law_5 hw ?_ | refine x_law_6 hw ?_ | refine x_law_7 hw ?_ | refine w_law_Lbegin hw ?_ | refine e_bf hw g_law_min b_min (by decide +kernel) (by decide +kernel) ?_ | refine e_bf hw g_law_len b_len (by decide +kernel) (by decide +kernel) ?_ | refine w_law_Lmade hw ?_ | refine w_law_Ltwin hw ?_ | refine w_law_Lodd hw ?_ | refine w_law_Lis_so hw ?_ | refine w_law_is_taker hw ?_ | refine w_law_Lsaid hw ?_ | refine e_none hw ?_ | refine e_bool hw ?_ | refine e_int hw ?_ | refine e_str hw ?_ | refine e_bin hw ?_ | refine e_una hw ?_ | refine e_and hw ?_ | refine e_or hw ?_ | refine e_ife hw ?_ | refine e_cmp hw ?_ | refine e_cmp2 hw ?_ | refine e_sub hw ?_ | refine e_sl hw ?_ | refine e_tup hw ?_ | refine e_lst hw ?_ | refine e_dct hw ?_ | refine e_isi hw g_law_isinstance g_law_bool nm_bool (by decide) (by decide +kernel) ?_) | (refine isT ?_; first | refine t_not hw ?_ | refine t_and hw ?_ | refine t_or hw ?_ | refine t_cmp hw ?_ | refine t_cmp2 hw ?_ | refine t_name hw ?_ | refine t_call hw ?_ | refine t_sub hw ?_) | (refine isS ?_; first | refine s_ret' hw ?_ | refine s_pass' hw ?_ | refine s_brk' hw ?_ | refine s_cnt' hw ?_ | refine s_exp' hw ?_ | refine s_if' hw ?_ | refine s_put' hw ?_ | refine s_for' hw ?_ (hc := cm_law) | refine y_law_0 hw ?_ | refine y_law_1 hw ?_ | refine y_law_2 hw ?_ | refine y_law_3 hw ?_ | refine y_law_4 hw ?_ | refine y_law_5 hw ?_ | refine y_law_6 hw ?_ | refine y_law_7 hw ?_) | (refine isG ?_; first | refine g_sb hw ?_ (hc := cm_law) | refine g_tp2 hw ?_ (hc := cm_law) | refine z_law_0 hw ?_ | refine z_law_1 hw ?_ | refine z_law_2 hw ?_ | refine z_law_3 hw ?_ | refine z_law_4 hw ?_ | refine z_law_5 hw ?_ | refine z_law_6 hw ?_ | refine z_law_7 hw ?_) | (refine isI ?_; first | refine i_range1' hw g_law_range ?_ | refine i_name hw ?_ | refine i_tup' hw ?_ | refine i_lst' hw ?_) | refine e_and1 ?_ | refine e_and2 ?_ | refine e_or1 ?_ | refine e_or2 ?_ | refine o_none ?_ | refine o_some ?_ | refine p_nil ?_ | refine p_cons ?_ | refine a_nil ?_ | refine a_cons ?_ | refine t_and1 ?_ | refine t_and2 ?_ | refine t_or1 ?_ | refine t_or2 ?_ | refine k_bl ?_ | refine k_int ?_ | refine nd_tru ?_ | refine if_t ?_ | refine if_f ?_ | refine b_nil ?_ | refine b_cons ?_ | refine g_nil ?_ | refine g_cons ?_ | refine o_add ?_ | refine o_sub ?_ | refine o_neg ?_ | refine o_nt ?_ | refine c_lt ?_ | refine c_le ?_ | refine c_gt ?_ | refine c_ge ?_ | refine c_eqI ?_ | refine c_eqS ?_ | refine c_neS ?_ | refine c_neI ?_ | refine c_eqB ?_ | refine if_tc (by decide +kernel) ?_ | refine if_fc (by decide +kernel) ?_ | refine ne_c ?_ | refine isi_non_bool ?_ | refine isi_bl_bool ?_ | refine isi_int_bool ?_ | refine isi_str_bool ?_ | refine isi_tup_bool ?_ | refine isi_rol_bool ?_ | refine isi_ref (by assumption) (by decide) ?_ | refine c_leB1 ?_ | refine c_leB2 ?_ | refine c_neB ?_ | refine c_eqBI ?_ | refine c_isN ?_ | refine c_isNN ?_ | refine c_in2 ?_ | refine c_in3 ?_ | refine c_in4 ?_ | refine c_in5 ?_ | refine c_ni2 ?_ | refine c_ni4 ?_ | refine c_ni5 ?_ | refine c_eqT0 ?_ | refine c_eqT1 ?_ | refine l_tup ?_ | refine l_rol ?_ | refine l_ref (by assumption) ?_ | refine x_d0 (by assumption) ?_ | refine x_d1 (by assumption) ?_ | refine x_d2 (by assumption) ?_ | refine x_d3 (by assumption) ?_ | refine x_d0 tupd_same ?_ | refine x_d1 tupd_same ?_ | refine x_d2 tupd_same ?_ | refine x_d3 tupd_same ?_ | refine d_go4 ?_ | refine r_bl ?_ | refine r_bl4 (by assumption) ?_ | refine r_bl4 tupd_same ?_ | refine m_min ?_ | refine m_max ?_ | refine m_abs ?_ | refine x_t0 ?_ | refine x_t1 ?_ | refine x_t2 ?_) | (refine len_go ?_ ?_; · (simp; done)) | (refine o_mod ?_ ?_; · (first | decide | omega)) | (refine o_pow ⟨by decide, by decide, by decide⟩ ?_) | (refine o_mul (cmul ?_ ?_ ?_ ?_) ?_; (· omega); (· omega); (· omega); (· omega)) | (refine o_div (cdiv ?_ ?_) ?_; (· omega); (· omega)) | (refine if_tc ?_ ?_; · (first | rfl | (simp; done) | (simp; omega))) | (refine if_fc ?_ ?_; · (first | rfl | (simp; done) | (simp; omega))))
    refine u_odd hd4 (by omega) (by omega) fun u H5 hu hd5 f5 => ?_
    repeat (first | (with_reducible first | refine nd_it ?_ | (refine isE ?_; first | refine x_law_0 hw ?_ | refine x_law_1 hw ?_ | refine x_law_2 hw ?_ | refine x_law_3 hw ?_ | refine x_law_4 hw ?_ | refine x_law_5 hw ?_ | refine x_law_6 hw ?_ | refine x_law_7 hw ?_ | refine w_law_Lbegin hw ?_ | refine e_bf hw g_law_min b_min (by decide +kernel) (by decide +kernel) ?_ | refine e_bf hw g_law_len b_len (by decide +kernel) (by decide +kernel) ?_ | refine w_law_Lmade hw ?_ | refine w_law_Ltwin hw ?_ | refine w_law_Lodd hw ?_ | refine w_law_Lis_so hw ?_ | refine w_law_is_taker hw ?_ | refine w_law_Lsaid hw ?_ | refine e_none hw ?_ | refine e_bool hw ?_ | refine e_int hw ?_ | refine e_str hw ?_ | refine e_bin hw ?_ | refine e_una hw ?_ | refine e_and hw ?_ | refine e_or hw ?_ | refine e_ife hw ?_ | refine e_cmp hw ?_ | refine e_cmp2 hw ?_ | refine e_sub hw ?_ | refine e_sl hw ?_ | refine e_tup hw ?_ | refine e_lst hw ?_ | refine e_dct hw ?_ | refine e_isi hw g_law_isinstance g_law_bool nm_bool (by decide) (by decide +kernel) ?_) | (refine isT ?_; first | refine t_not hw ?_ | refine t_and hw ?_ | refine t_or hw ?_ | refine t_cmp hw ?_ | refine t_cmp2 hw ?_ | refine t_name hw ?_ | refine t_call hw ?_ | refine t_sub hw ?_) | (refine isS ?_; first | refine s_ret' hw ?_ | refine s_pass' hw ?_ | refine s_brk' hw ?_ | refine s_cnt' hw ?_ | refine s_exp' hw ?_ | refine s_if' hw ?_ | refine s_put' hw ?_ | refine s_for' hw ?_ (hc := cm_law) | refine y_law_0 hw ?_ | refine y_law_1 hw ?_ | refine y_law_2 hw ?_ | refine y_law_3 hw ?_ | refine y_law_4 hw ?_ | refine y_law_5 hw ?_ | refine y_law_6 hw ?_ | refine y_law_7 hw ?_) | (refine isG ?_; first | refine g_sb hw ?_ (hc := cm_law) | refine g_tp2 hw ?_ (hc := cm_law) | refine z_law_0 hw ?_ | refine z_law_1 hw ?_ | refine z_law_2 hw ?_ | refine z_law_3 hw ?_ | refine z_law_4 hw ?_ | refine z_law_5 hw ?_ | refine z_law_6 hw ?_ | refine z_law_7 hw ?_) | (refine isI ?_; first | refine i_range1' hw g_law_range ?_ | refine i_name hw ?_ | refine i_tup' hw ?_ | refine i_lst' hw ?_) | refine e_and1 ?_ | refine e_and2 ?_ | refine e_or1 ?_ | refine e_or2 ?_ | refine o_none ?_ | refine o_some ?_ | refine p_nil ?_ | refine p_cons ?_ | refine a_nil ?_ | refine a_cons ?_ | refine t_and1 ?_ | refine t_and2 ?_ | refine t_or1 ?_ | refine t_or2 ?_ | refine k_bl ?_ | refine k_int ?_ | refine nd_tru ?_ | refine if_t ?_ | refine if_f ?_ | refine b_nil ?_ | refine b_cons ?_ | refine g_nil ?_ | refine g_cons ?_ | refine o_add ?_ | refine o_sub ?_ | refine o_neg ?_ | refine o_nt ?_ | refine c_lt ?_ | refine c_le ?_ | refine c_gt ?_ | refine c_ge ?_ | refine c_eqI ?_ | refine c_eqS ?_ | refine c_neS ?_ | refine c_neI ?_ | refine c_eqB ?_ | refine if_tc (by decide +kernel) ?_ | refine if_fc (by decide +kernel) ?_ | refine ne_c ?_ | refine isi_non_bool ?_ | refine isi_bl_bool ?_ | refine isi_int_bool ?_ | refine isi_str_bool ?_ | refine isi_tup_bool ?_ | refine isi_rol_bool ?_ | refine isi_ref (by assumption) (by decide) ?_ | refine c_leB1 ?_ | refine c_leB2 ?_ | refine c_neB ?_ | refine c_eqBI ?_ | refine c_isN ?_ | refine c_isNN ?_ | refine c_in2 ?_ | refine c_in3 ?_ | refine c_in4 ?_ | refine c_in5 ?_ | refine c_ni2 ?_ | refine c_ni4 ?_ | refine c_ni5 ?_ | refine c_eqT0 ?_ | refine c_eqT1 ?_ | refine l_tup ?_ | refine l_rol ?_ | refine l_ref (by assumption) ?_ | refine x_d0 (by assumption) ?_ | refine x_d1 (by assumption) ?_ | refine x_d2 (by assumption) ?_ | refine x_d3 (by assumption) ?_ | refine x_d0 tupd_same ?_ | refine x_d1 tupd_same ?_ | refine x_d2 tupd_same ?_ | refine x_d3 tupd_same ?_ | refine d_go4 ?_ | refine r_bl ?_ | refine r_bl4 (by assumption) ?_ | refine r_bl4 tupd_same ?_ | refine m_min ?_ | refine m_max ?_ | refine m_abs ?_ | refine x_t0 ?_ | refine x_t1 ?_ | refine x_t2 ?_) | (refine len_go ?_ ?_; · (simp; done)) | (refine o_mod ?_ ?_; · (first | decide | omega)) | (refine o_pow ⟨by decide, by decide, by decide⟩ ?_) | (refine o_mul (cmul ?_ ?_ ?_ ?_) ?_; (· omega); (· omega); (· omega); (· omega)) | (refine o_div (cdiv ?_ ?_) ?_; (· omega); (· omega)) | (refine if_tc ?_ ?_; · (first | rfl | (simp; done) | (simp; omega))) | (refine if_fc ?_ ?_; · (first | rfl | (simp; done) | (simp; omega))))
    have tx : Tg H5 x := ((hx.1.fr f3).fx f4 hd4).fx f5 hd5
    have ty : Tg H5 y := (hy.fx f4 hd4).fx f5 hd5
    have tz : Tg H5 z := hz.1.fx f5 hd5
    refine for_all (I := fun σ H' => Fr H5 H' ∧ ∃ o2 o3 o4 o5 o6 o7, σ = [some (.rol (ns.map TV.int)), some (.ref d), o2, o3, o4, o5, o6, o7]) (P := fun v => Tg H5 v) (fun v σ H6 D2 hv hi hD2 => ?_) _ _ _ ?_ ⟨Fr.refl _, _, _, _, _, _, _, rfl⟩ fun σ H6 hi => ?_
    · obtain ⟨f6, o2, o3, o4, o5, o6, o7, rfl⟩ := hi
      have hv6 := hv.fr f6
      repeat (first | (with_reducible first | refine u1 (by assumption) ?_ | (refine isE ?_; first | refine x_law_0 hw ?_ | refine x_law_1 hw ?_ | refine x_law_2 hw ?_ | refine x_law_3 hw ?_ | refine x_law_4 hw ?_ | refine x_law_5 hw ?_ | refine x_law_6 hw ?_ | refine x_law_7 hw ?_ | refine w_law_Lbegin hw ?_ | refine e_bf hw g_law_min b_min (by decide +kernel) (by decide +kernel) ?_ | refine e_bf hw g_law_len b_len (by decide +kernel) (by decide +kernel) ?_ | refine w_law_Lmade hw ?_ | refine w_law_Ltwin hw ?_ | refine w_law_Lodd hw ?_ | refine w_law_Lis_so hw ?_ | refine w_law_is_taker hw ?_ | refine w_law_Lsaid hw ?_ | refine e_none hw ?_ | refine e_bool hw ?_ | refine e_int hw ?_ | refine e_str hw ?_ | refine e_bin hw ?_ | refine e_una hw ?_ | refine e_and hw ?_ | refine e_or hw ?_ | refine e_ife hw ?_ | refine e_cmp hw ?_ | refine e_cmp2 hw ?_ | refine e_sub hw ?_ | refine e_sl hw ?_ | refine e_tup hw ?_ | refine e_lst hw ?_ | refine e_dct hw ?_ | refine e_isi hw g_law_isinstance g_law_bool nm_bool (by decide) (by decide +kernel) ?_) | (refine isT ?_; first | refine t_not hw ?_ | refine t_and hw ?_ | refine t_or hw ?_ | refine t_cmp hw ?_ | refine t_cmp2 hw ?_ | refine t_name hw ?_ | refine t_call hw ?_ | refine t_sub hw ?_) | (refine isS ?_; first | refine s_ret' hw ?_ | refine s_pass' hw ?_ | refine s_brk' hw ?_ | refine s_cnt' hw ?_ | refine s_exp' hw ?_ | refine s_if' hw ?_ | refine s_put' hw ?_ | refine s_for' hw ?_ (hc := cm_law) | refine y_law_0 hw ?_ | refine y_law_1 hw ?_ | refine y_law_2 hw ?_ | refine y_law_3 hw ?_ | refine y_law_4 hw ?_ | refine y_law_5 hw ?_ | refine y_law_6 hw ?_ | refine y_law_7 hw ?_) | (refine isG ?_; first | refine g_sb hw ?_ (hc := cm_law) | refine g_tp2 hw ?_ (hc := cm_law) | refine z_law_0 hw ?_ | refine z_law_1 hw ?_ | refine z_law_2 hw ?_ | refine z_law_3 hw ?_ | refine z_law_4 hw ?_ | refine z_law_5 hw ?_ | refine z_law_6 hw ?_ | refine z_law_7 hw ?_) | (refine isI ?_; first | refine i_range1' hw g_law_range ?_ | refine i_name hw ?_ | refine i_tup' hw ?_ | refine i_lst' hw ?_) | refine e_and1 ?_ | refine e_and2 ?_ | refine e_or1 ?_ | refine e_or2 ?_ | refine o_none ?_ | refine o_some ?_ | refine p_nil ?_ | refine p_cons ?_ | refine a_nil ?_ | refine a_cons ?_ | refine t_and1 ?_ | refine t_and2 ?_ | refine t_or1 ?_ | refine t_or2 ?_ | refine k_bl ?_ | refine k_int ?_ | refine nd_tru ?_ | refine if_t ?_ | refine if_f ?_ | refine b_nil ?_ | refine b_cons ?_ | refine g_nil ?_ | refine g_cons ?_ | refine o_add ?_ | refine o_sub ?_ | refine o_neg ?_ | refine o_nt ?_ | refine c_lt ?_ | refine c_le ?_ | refine c_gt ?_ | refine c_ge ?_ | refine c_eqI ?_ | refine c_eqS ?_ | refine c_neS ?_ | refine c_neI ?_ | refine c_eqB ?_ | refine if_tc (by decide +kernel) ?_ | refine if_fc (by decide +kernel) ?_ | refine ne_c ?_ | refine isi_non_bool ?_ | refine isi_bl_bool ?_ | refine isi_int_bool ?_ | refine isi_str_bool ?_ | refine isi_tup_bool ?_ | refine isi_rol_bool ?_ | refine isi_ref (by assumption) (by decide) ?_ | refine c_leB1 ?_ | refine c_leB2 ?_ | refine c_neB ?_ | refine c_eqBI ?_ | refine c_isN ?_ | refine c_isNN ?_ | refine c_in2 ?_ | refine c_in3 ?_ | refine c_in4 ?_ | refine c_in5 ?_ | refine c_ni2 ?_ | refine c_ni4 ?_ | refine c_ni5 ?_ | refine c_eqT0 ?_ | refine c_eqT1 ?_ | refine l_tup ?_ | refine l_rol ?_ | refine l_ref (by assumption) ?_ | refine x_d0 (by assumption) ?_ | refine x_d1 (by assumption) ?_ | refine x_d2 (by assumption) ?_ | refine x_d3 (by assumption) ?_ | refine x_d0 tupd_same ?_ | refine x_d1 tupd_same ?_ | refine x_d2 tupd_same ?_ | refine x_d3 tupd_same ?_ | refine d_go4 ?_ | refine r_bl ?_ | refine r_bl4 (by assumption) ?_ | refine r_bl4 tupd_same ?_ | refine m_min ?_ | refine m_max ?_ | refine m_abs ?_ | refine x_t0 ?_ | refine x_t1 ?_ | refine x_t2 ?_) | (refine len_go ?_ ?_; · (simp; done)) | (refine o_mod ?_ ?_; · (first | decide | omega)) | (refine o_pow ⟨by decide, by decide, by decide⟩ ?_) | (refine o_mul (cmul ?_ ?_ ?_ ?_) ?_; (· omega); (· omega); (· omega); (· omega)) | (refine o_div (cdiv ?_ ?_) ?_; (· omega); (· omega)) | (refine if_tc ?_ ?_; · (first | rfl | (simp; done) | (simp; omega))) | (refine if_fc ?_ ?_; · (first | rfl | (simp; done) | (simp; omega))))
      refine rg1 (by omega) (by omega) ?_
      refine for_all (I := fun σ H' => Fr H5 H' ∧ ∃ o2 o3 o6 o7, σ = [some (.rol (ns.map TV.int)), some (.ref d), o2, o3, some v, some (.bl (isTaker v)), o6, o7]) (P := fun _ => True) (fun w σ H7 D3 _ hi hD3 => ?_) _ _ _ (fun _ _ => trivial) ⟨f6, _, _, _, _, rfl⟩ fun σ H7 hi => ?_
      · obtain ⟨f7, o2, o3, o6, o7, rfl⟩ := hi
        have hv7 := hv.fr f7
        repeat (first | (with_reducible first | refine u1 (by assumption) ?_ | (refine isE ?_; first | refine x_law_0 hw ?_ | refine x_law_1 hw ?_ | refine x_law_2 hw ?_ | refine x_law_3 hw ?_ | refine x_law_4 hw ?_ | refine x_law_5 hw ?_ | refine x_law_6 hw ?_ | refine x_law_7 hw ?_ | refine w_law_Lbegin hw ?_ | refine e_bf hw g_law_min b_min (by decide +kernel) (by decide +kernel) ?_ | refine e_bf hw g_law_len b_len (by decide +kernel) (by decide +kernel) ?_ | refine w_law_Lmade hw ?_ | refine w_law_Ltwin hw ?_ | refine w_law_Lodd hw ?_ | refine w_law_Lis_so hw ?_ | refine w_law_is_taker hw ?_ | refine w_law_Lsaid hw ?_ | refine e_none hw ?_ | refine e_bool hw ?_ | refine e_int hw ?_ | refine e_str hw ?_ | refine e_bin hw ?_ | refine e_una hw ?_ | refine e_and hw ?_ | refine e_or hw ?_ | refine e_ife hw ?_ | refine e_cmp hw ?_ | refine e_cmp2 hw ?_ | refine e_sub hw ?_ | refine e_sl hw ?_ | refine e_tup hw ?_ | refine e_lst hw ?_ | refine e_dct hw ?_ | refine e_isi hw g_law_isinstance g_law_bool nm_bool (by decide) (by decide +kernel) ?_) | (refine isT ?_; first | refine t_not hw ?_ | refine t_and hw ?_ | refine t_or hw ?_ | refine t_cmp hw ?_ | refine t_cmp2 hw ?_ | refine t_name hw ?_ | refine t_call hw ?_ | refine t_sub hw ?_) | (refine isS ?_; first | refine s_ret' hw ?_ | refine s_pass' hw ?_ | refine s_brk' hw ?_ | refine s_cnt' hw ?_ | refine s_exp' hw ?_ | refine s_if' hw ?_ | refine s_put' hw ?_ | refine s_for' hw ?_ (hc := cm_law) | refine y_law_0 hw ?_ | refine y_law_1 hw ?_ | refine y_law_2 hw ?_ | refine y_law_3 hw ?_ | refine y_law_4 hw ?_ | refine y_law_5 hw ?_ | refine y_law_6 hw ?_ | refine y_law_7 hw ?_) | (refine isG ?_; first | refine g_sb hw ?_ (hc := cm_law) | refine g_tp2 hw ?_ (hc := cm_law) | refine z_law_0 hw ?_ | refine z_law_1 hw ?_ | refine z_law_2 hw ?_ | refine z_law_3 hw ?_ | refine z_law_4 hw ?_ | refine z_law_5 hw ?_ | refine z_law_6 hw ?_ | refine z_law_7 hw ?_) | (refine isI ?_; first | refine i_range1' hw g_law_range ?_ | refine i_name hw ?_ | refine i_tup' hw ?_ | refine i_lst' hw ?_) | refine e_and1 ?_ | refine e_and2 ?_ | refine e_or1 ?_ | refine e_or2 ?_ | refine o_none ?_ | refine o_some ?_ | refine p_nil ?_ | refine p_cons ?_ | refine a_nil ?_ | refine a_cons ?_ | refine t_and1 ?_ | refine t_and2 ?_ | refine t_or1 ?_ | refine t_or2 ?_ | refine k_bl ?_ | refine k_int ?_ | refine nd_tru ?_ | refine if_t ?_ | refine if_f ?_ | refine b_nil ?_ | refine b_cons ?_ | refine g_nil ?_ | refine g_cons ?_ | refine o_add ?_ | refine o_sub ?_ | refine o_neg ?_ | refine o_nt ?_ | refine c_lt ?_ | refine c_le ?_ | refine c_gt ?_ | refine c_ge ?_ | refine c_eqI ?_ | refine c_eqS ?_ | refine c_neS ?_ | refine c_neI ?_ | refine c_eqB ?_ | refine if_tc (by decide +kernel) ?_ | refine if_fc (by decide +kernel) ?_ | refine ne_c ?_ | refine isi_non_bool ?_ | refine isi_bl_bool ?_ | refine isi_int_bool ?_ | refine isi_str_bool ?_ | refine isi_tup_bool ?_ | refine isi_rol_bool ?_ | refine isi_ref (by assumption) (by decide) ?_ | refine c_leB1 ?_ | refine c_leB2 ?_ | refine c_neB ?_ | refine c_eqBI ?_ | refine c_isN ?_ | refine c_isNN ?_ | refine c_in2 ?_ | refine c_in3 ?_ | refine c_in4 ?_ | refine c_in5 ?_ | refine c_ni2 ?_ | refine c_ni4 ?_ | refine c_ni5 ?_ | refine c_eqT0 ?_ | refine c_eqT1 ?_ | refine l_tup ?_ | refine l_rol ?_ | refine l_ref (by assumption) ?_ | refine x_d0 (by assumption) ?_ | refine x_d1 (by assumption) ?_ | refine x_d2 (by assumption) ?_ | refine x_d3 (by assumption) ?_ | refine x_d0 tupd_same ?_ | refine x_d1 tupd_same ?_ | refine x_d2 tupd_same ?_ | refine x_d3 tupd_same ?_ | refine d_go4 ?_ | refine r_bl ?_ | refine r_bl4 (by assumption) ?_ | refine r_bl4 tupd_same ?_ | refine m_min ?_ | refine m_max ?_ | refine m_abs ?_ | refine x_t0 ?_ | refine x_t1 ?_ | refine x_t2 ?_) | (refine len_go ?_ ?_; · (simp; done)) | (refine o_mod ?_ ?_; · (first | decide | omega)) | (refine o_pow ⟨by decide, by decide, by decide⟩ ?_) | (refine o_mul (cmul ?_ ?_ ?_ ?_) ?_; (· omega); (· omega); (· omega); (· omega)) | (refine o_div (cdiv ?_ ?_) ?_; (· omega); (· omega)) | (refine if_tc ?_ ?_; · (first | rfl | (simp; done) | (simp; omega))) | (refine if_fc ?_ ?_; · (first | rfl | (simp; done) | (simp; omega))))
        repeat (first | (with_reducible first | refine u1 (by assumption) ?_ | (refine isE ?_; first | refine x_law_0 hw ?_ | refine x_law_1 hw ?_ | refine x_law_2 hw ?_ | refine x_law_3 hw ?_ | refine x_law_4 hw ?_ | refine x_law_5 hw ?_ | refine x_law_6 hw ?_ | refine x_law_7 hw ?_ | refine w_law_Lbegin hw ?_ | refine e_bf hw g_law_min b_min (by decide +kernel) (by decide +kernel) ?_ | refine e_bf hw g_law_len b_len (by decide +kernel) (by decide +kernel) ?_ | refine w_law_Lmade hw ?_ | refine w_law_Ltwin hw ?_ | refine w_law_Lodd hw ?_ | refine w_law_Lis_so hw ?_ | refine w_law_is_taker hw ?_ | refine w_law_Lsaid hw ?_ | refine e_none hw ?_ | refine e_bool hw ?_ | refine e_int hw ?_ | refine e_str hw ?_ | refine e_bin hw ?_ | refine e_una hw ?_ | refine e_and hw ?_ | refine e_or hw ?_ | refine e_ife hw ?_ | refine e_cmp hw ?_ | refine e_cmp2 hw ?_ | refine e_sub hw ?_ | refine e_sl hw ?_ | refine e_tup hw ?_ | refine e_lst hw ?_ | refine e_dct hw ?_ | refine e_isi hw g_law_isinstance g_law_bool nm_bool (by decide) (by decide +kernel) ?_) | (refine isT ?_; first | refine t_not hw ?_ | refine t_and hw ?_ | refine t_or hw ?_ | refine t_cmp hw ?_ | refine t_cmp2 hw ?_ | refine t_name hw ?_ | refine t_call hw ?_ | refine t_sub hw ?_) | (refine isS ?_; first | refine s_ret' hw ?_ | refine s_pass' hw ?_ | refine s_brk' hw ?_ | refine s_cnt' hw ?_ | refine s_exp' hw ?_ | refine s_if' hw ?_ | refine s_put' hw ?_ | refine s_for' hw ?_ (hc := cm_law) | refine y_law_0 hw ?_ | refine y_law_1 hw ?_ | refine y_law_2 hw ?_ | refine y_law_3 hw ?_ | refine y_law_4 hw ?_ | refine y_law_5 hw ?_ | refine y_law_6 hw ?_ | refine y_law_7 hw ?_) | (refine isG ?_; first | refine g_sb hw ?_ (hc := cm_law) | refine g_tp2 hw ?_ (hc := cm_law) | refine z_law_0 hw ?_ | refine z_law_1 hw ?_ | refine z_law_2 hw ?_ | refine z_law_3 hw ?_ | refine z_law_4 hw ?_ | refine z_law_5 hw ?_ | refine z_law_6 hw ?_ | refine z_law_7 hw ?_) | (refine isI ?_; first | refine i_range1' hw g_law_range ?_ | refine i_name hw ?_ | refine i_tup' hw ?_ | refine i_lst' hw ?_) | refine e_and1 ?_ | refine e_and2 ?_ | refine e_or1 ?_ | refine e_or2 ?_ | refine o_none ?_ | refine o_some ?_ | refine p_nil ?_ | refine p_cons ?_ | refine a_nil ?_ | refine a_cons ?_ | refine t_and1 ?_ | refine t_and2 ?_ | refine t_or1 ?_ | refine t_or2 ?_ | refine k_bl ?_ | refine k_int ?_ | refine nd_tru ?_ | refine if_t ?_ | refine if_f ?_ | refine b_nil ?_ | refine b_cons ?_ | refine g_nil ?_ | refine g_cons ?_ | refine o_add ?_ | refine o_sub ?_ | refine o_neg ?_ | refine o_nt ?_ | refine c_lt ?_ | refine c_le ?_ | refine c_gt ?_ | refine c_ge ?_ | refine c_eqI ?_ | refine c_eqS ?_ | refine c_neS ?_ | refine c_neI ?_ | refine c_eqB ?_ | refine if_tc (by decide +kernel) ?_ | refine if_fc (by decide +kernel) ?_ | refine ne_c ?_ | refine isi_non_bool ?_ | refine isi_bl_bool ?_ | refine isi_int_bool ?_ | refine isi_str_bool ?_ | refine isi_tup_bool ?_ | refine isi_rol_bool ?_ | refine isi_ref (by assumption) (by decide) ?_ | refine c_leB1 ?_ | refine c_leB2 ?_ | refine c_neB ?_ | refine c_eqBI ?_ | refine c_isN ?_ | refine c_isNN ?_ | refine c_in2 ?_ | refine c_in3 ?_ | refine c_in4 ?_ | refine c_in5 ?_ | refine c_ni2 ?_ | refine c_ni4 ?_ | refine c_ni5 ?_ | refine c_eqT0 ?_ | refine c_eqT1 ?_ | refine l_tup ?_ | refine l_rol ?_ | refine l_ref (by assumption) ?_ | refine x_d0 (by assumption) ?_ | refine x_d1 (by assumption) ?_ | refine x_d2 (by assumption) ?_ | refine x_d3 (by assumption) ?_ | refine x_d0 tupd_same ?_ | refine x_d1 tupd_same ?_ | refine x_d2 tupd_same ?_ | refine x_d3 tupd_same ?_ | refine d_go4 ?_ | refine r_bl ?_ | refine r_bl4 (by assumption) ?_ | refine r_bl4 tupd_same ?_ | refine m_min ?_ | refine m_max ?_ | refine m_abs ?_ | refine x_t0 ?_ | refine x_t1 ?_ | refine x_t2 ?_) | (refine len_go ?_ ?_; · (simp; done)) | (refine o_mod ?_ ?_; · (first | decide | omega)) | (refine o_pow ⟨by decide, by decide, by decide⟩ ?_) | (refine o_mul (cmul ?_ ?_ ?_ ?_) ?_; (· omega); (· omega); (· omega); (· omega)) | (refine o_div (cdiv ?_ ?_) ?_; (· omega); (· omega)) | (refine if_tc ?_ ?_; · (first | rfl | (simp; done) | (simp; omega))) | (refine if_fc ?_ ?_; · (first | rfl | (simp; done) | (simp; omega))))
        refine u_said hv7 fun H8 f8 => ?_
        repeat (first | (with_reducible first | (refine isE ?_; first | refine x_law_0 hw ?_ | refine x_law_1 hw ?_ | refine x_law_2 hw ?_ | refine x_law_3 hw ?_ | refine x_law_4 hw ?_ | refine x_law_5 hw ?_ | refine x_law_6 hw ?_ | refine x_law_7 hw ?_ | refine w_law_Lbegin hw ?_ | refine e_bf hw g_law_min b_min (by decide +kernel) (by decide +kernel) ?_ | refine e_bf hw g_law_len b_len (by decide +kernel) (by decide +kernel) ?_ | refine w_law_Lmade hw ?_ | refine w_law_Ltwin hw ?_ | refine w_law_Lodd hw ?_ | refine w_law_Lis_so hw ?_ | refine w_law_is_taker hw ?_ | refine w_law_Lsaid hw ?_ | refine e_none hw ?_ | refine e_bool hw ?_ | refine e_int hw ?_ | refine e_str hw ?_ | refine e_bin hw ?_ | refine e_una hw ?_ | refine e_and hw ?_ | refine e_or hw ?_ | refine e_ife hw ?_ | refine e_cmp hw ?_ | refine e_cmp2 hw ?_ | refine e_sub hw ?_ | refine e_sl hw ?_ | refine e_tup hw ?_ | refine e_lst hw ?_ | refine e_dct hw ?_ | refine e_isi hw g_law_isinstance g_law_bool nm_bool (by decide) (by decide +kernel) ?_) | (refine isT ?_; first | refine t_not hw ?_ | refine t_and hw ?_ | refine t_or hw ?_ | refine t_cmp hw ?_ | refine t_cmp2 hw ?_ | refine t_name hw ?_ | refine t_call hw ?_ | refine t_sub hw ?_) | (refine isS ?_; first | refine s_ret' hw ?_ | refine s_pass' hw ?_ | refine s_brk' hw ?_ | refine s_cnt' hw ?_ | refine s_exp' hw ?_ | refine s_if' hw ?_ | refine s_put' hw ?_ | refine s_for' hw ?_ (hc := cm_law) | refine y_law_0 hw ?_ | refine y_law_1 hw ?_ | refine y_law_2 hw ?_ | refine y_law_3 hw ?_ | refine y_law_4 hw ?_ | refine y_law_5 hw ?_ | refine y_law_6 hw ?_ | refine y_law_7 hw ?_) | (refine isG ?_; first | refine g_sb hw ?_ (hc := cm_law) | refine g_tp2 hw ?_ (hc := cm_law) | refine z_law_0 hw ?_ | refine z_law_1 hw ?_ | refine z_law_2 hw ?_ | refine z_law_3 hw ?_ | refine z_law_4 hw ?_ | refine z_law_5 hw ?_ | refine z_law_6 hw ?_ | refine z_law_7 hw ?_) | (refine isI ?_; first | refine i_range1' hw g_law_range ?_ | refine i_name hw ?_ | refine i_tup' hw ?_ | refine i_lst' hw ?_) | refine e_and1 ?_ | refine e_and2 ?_ | refine e_or1 ?_ | refine e_or2 ?_ | refine o_none ?_ | refine o_some ?_ | refine p_nil ?_ | refine p_cons ?_ | refine a_nil ?_ | refine a_cons ?_ | refine t_and1 ?_ | refine t_and2 ?_ | refine t_or1 ?_ | refine t_or2 ?_ | refine k_bl ?_ | refine k_int ?_ | refine nd_tru ?_ | refine if_t ?_ | refine if_f ?_ | refine b_nil ?_ | refine b_cons ?_ | refine g_nil ?_ | refine g_cons ?_ | refine o_add ?_ | refine o_sub ?_ | refine o_neg ?_ | refine o_nt ?_ | refine c_lt ?_ | refine c_le ?_ | refine c_gt ?_ | refine c_ge ?_ | refine c_eqI ?_ | refine c_eqS ?_ | refine c_neS ?_ | refine c_neI ?_ | refine c_eqB ?_ | refine if_tc (by decide +kernel) ?_ | refine if_fc (by decide +kernel) ?_ | refine ne_c ?_ | refine isi_non_bool ?_ | refine isi_bl_bool ?_ | refine isi_int_bool ?_ | refine isi_str_bool ?_ | refine isi_tup_bool ?_ | refine isi_rol_bool ?_ | refine isi_ref (by assumption) (by decide) ?_ | refine c_leB1 ?_ | refine c_leB2 ?_ | refine c_neB ?_ | refine c_eqBI ?_ | refine c_isN ?_ | refine c_isNN ?_ | refine c_in2 ?_ | refine c_in3 ?_ | refine c_in4 ?_ | refine c_in5 ?_ | refine c_ni2 ?_ | refine c_ni4 ?_ | refine c_ni5 ?_ | refine c_eqT0 ?_ | refine c_eqT1 ?_ | refine l_tup ?_ | refine l_rol ?_ | refine l_ref (by assumption) ?_ | refine x_d0 (by assumption) ?_ | refine x_d1 (by assumption) ?_ | refine x_d2 (by assumption) ?_ | refine x_d3 (by assumption) ?_ | refine x_d0 tupd_same ?_ | refine x_d1 tupd_same ?_ | refine x_d2 tupd_same ?_ | refine x_d3 tupd_same ?_ | refine d_go4 ?_ | refine r_bl ?_ | refine r_bl4 (by assumption) ?_ | refine r_bl4 tupd_same ?_ | refine m_min ?_ | refine m_max ?_ | refine m_abs ?_ | refine x_t0 ?_ | refine x_t1 ?_ | refine x_t2 ?_) | (refine len_go ?_ ?_; · (simp; done)) | (refine o_mod ?_ ?_; · (first | decide | omega)) | (refine o_pow ⟨by decide, by decide, by decide⟩ ?_) | (refine o_mul (cmul ?_ ?_ ?_ ?_) ?_; (· omega); (· omega); (· omega); (· omega)) | (refine o_div (cdiv ?_ ?_) ?_; (· omega); (· omega)) | (refine if_tc ?_ ?_; · (first | rfl | (simp; done) | (simp; omega))) | (refine if_fc ?_ ?_; · (first | rfl | (simp; done) | (simp; omega))))
        repeat (first | (with_reducible first | (refine isE ?_; first | refine x_law_0 hw ?_ | refine x_law_1 hw ?_ | refine x_law_2 hw ?_ | refine x_law_3 hw ?_ | refine x_law_4 hw ?_ | refine x_law_5 hw ?_ | refine x_law_6 hw ?_ | refine x_law_7 hw ?_ | refine w_law_Lbegin hw ?_ | refine e_bf hw g_law_min b_min (by decide +kernel) (by decide +kernel) ?_ | refine e_bf hw g_law_len b_len (by decide +kernel) (by decide +kernel) ?_ | refine w_law_Lmade hw ?_ | refine w_law_Ltwin hw ?_ | refine w_law_Lodd hw ?_ | refine w_law_Lis_so hw ?_ | refine w_law_is_taker hw ?_ | refine w_law_Lsaid hw ?_ | refine e_none hw ?_ | refine e_bool hw ?_ | refine e_int hw ?_ | refine e_str hw ?_ | refine e_bin hw ?_ | refine e_una hw ?_ | refine e_and hw ?_ | refine e_or hw ?_ | refine e_ife hw ?_ | refine e_cmp hw ?_ | refine e_cmp2 hw ?_ | refine e_sub hw ?_ | refine e_sl hw ?_ | refine e_tup hw ?_ | refine e_lst hw ?_ | refine e_dct hw ?_ | refine e_isi hw g_law_isinstance g_law_bool nm_bool (by decide) (by decide +kernel) ?_) | (refine isT ?_; first | refine t_not hw ?_ | refine t_and hw ?_ | refine t_or hw ?_ | refine t_cmp hw ?_ | refine t_cmp2 hw ?_ | refine t_name hw ?_ | refine t_call hw ?_ | refine t_sub hw ?_) | (refine isS ?_; first | refine s_ret' hw ?_ | refine s_pass' hw ?_ | refine s_brk' hw ?_ | refine s_cnt' hw ?_ | refine s_exp' hw ?_ | refine s_if' hw ?_ | refine s_put' hw ?_ | refine s_for' hw ?_ (hc := cm_law) | refine y_law_0 hw ?_ | refine y_law_1 hw ?_ | refine y_law_2 hw ?_ | refine y_law_3 hw ?_ | refine y_law_4 hw ?_ | refine y_law_5 hw ?_ | refine y_law_6 hw ?_ | refine y_law_7 hw ?_) | (refine isG ?_; first | refine g_sb hw ?_ (hc := cm_law) | refine g_tp2 hw ?_ (hc := cm_law) | refine z_law_0 hw ?_ | refine z_law_1 hw ?_ | refine z_law_2 hw ?_ | refine z_law_3 hw ?_ | refine z_law_4 hw ?_ | refine z_law_5 hw ?_ | refine z_law_6 hw ?_ | refine z_law_7 hw ?_) | (refine isI ?_; first | refine i_range1' hw g_law_range ?_ | refine i_name hw ?_ | refine i_tup' hw ?_ | refine i_lst' hw ?_) | refine e_and1 ?_ | refine e_and2 ?_ | refine e_or1 ?_ | refine e_or2 ?_ | refine o_none ?_ | refine o_some ?_ | refine p_nil ?_ | refine p_cons ?_ | refine a_nil ?_ | refine a_cons ?_ | refine t_and1 ?_ | refine t_and2 ?_ | refine t_or1 ?_ | refine t_or2 ?_ | refine k_bl ?_ | refine k_int ?_ | refine nd_tru ?_ | refine if_t ?_ | refine if_f ?_ | refine b_nil ?_ | refine b_cons ?_ | refine g_nil ?_ | refine g_cons ?_ | refine o_add ?_ | refine o_sub ?_ | refine o_neg ?_ | refine o_nt ?_ | refine c_lt ?_ | refine c_le ?_ | refine c_gt ?_ | refine c_ge ?_ | refine c_eqI ?_ | refine c_eqS ?_ | refine c_neS ?_ | refine c_neI ?_ | refine c_eqB ?_ | refine if_tc (by decide +kernel) ?_ | refine if_fc (by decide +kernel) ?_ | refine ne_c ?_ | refine isi_non_bool ?_ | refine isi_bl_bool ?_ | refine isi_int_bool ?_ | refine isi_str_bool ?_ | refine isi_tup_bool ?_ | refine isi_rol_bool ?_ | refine isi_ref (by assumption) (by decide) ?_ | refine c_leB1 ?_ | refine c_leB2 ?_ | refine c_neB ?_ | refine c_eqBI ?_ | refine c_isN ?_ | refine c_isNN ?_ | refine c_in2 ?_ | refine c_in3 ?_ | refine c_in4 ?_ | refine c_in5 ?_ | refine c_ni2 ?_ | refine c_ni4 ?_ | refine c_ni5 ?_ | refine c_eqT0 ?_ | refine c_eqT1 ?_ | refine l_tup ?_ | refine l_rol ?_ | refine l_ref (by assumption) ?_ | refine x_d0 (by assumption) ?_ | refine x_d1 (by assumption) ?_ | refine x_d2 (by assumption) ?_ | refine x_d3 (by assumption) ?_ | refine x_d0 tupd_same ?_ | refine x_d1 tupd_same ?_ | refine x_d2 tupd_same ?_ | refine x_d3 tupd_same ?_ | refine d_go4 ?_ | refine r_bl ?_ | refine r_bl4 (by assumption) ?_ | refine r_bl4 tupd_same ?_ | refine m_min ?_ | refine m_max ?_ | refine m_abs ?_ | refine x_t0 ?_ | refine x_t1 ?_ | refine x_t2 ?_) | (refine len_go ?_ ?_; · (simp; done)) | (refine o_mod ?_ ?_; · (first | decide | omega)) | (refine o_pow ⟨by decide, by decide, by decide⟩ ?_) | (refine o_mul (cmul ?_ ?_ ?_ ?_) ?_; (· omega); (· omega); (· omega); (· omega)) | (refine o_div (cdiv ?_ ?_) ?_; (· omega); (· omega)) | (refine if_tc ?_ ?_; · (first | rfl | (simp; done) | (simp; omega))) | (refine if_fc ?_ ?_; · (first | rfl | (simp; done) | (simp; omega))))
        exact hD3 _ _ ⟨f7.trans f8, _, _, _, _, rfl⟩
      · obtain ⟨f7, o2, o3, o6, o7, rfl⟩ := hi
        repeat (first | (with_reducible first | (refine isE ?_; first | refine x_law_0 hw ?_ | refine x_law_1 hw ?_ | refine x_law_2 hw ?_ | refine x_law_3 hw ?_ | refine x_law_4 hw ?_ | refine x_law_5 hw ?_ | refine x_law_6 hw ?_ | refine x_law_7 hw ?_ | refine w_law_Lbegin hw ?_ | refine e_bf hw g_law_min b_min (by decide +kernel) (by decide +kernel) ?_ | refine e_bf hw g_law_len b_len (by decide +kernel) (by decide +kernel) ?_ | refine w_law_Lmade hw ?_ | refine w_law_Ltwin hw ?_ | refine w_law_Lodd hw ?_ | refine w_law_Lis_so hw ?_ | refine w_law_is_taker hw ?_ | refine w_law_Lsaid hw ?_ | refine e_none hw ?_ | refine e_bool hw ?_ | refine e_int hw ?_ | refine e_str hw ?_ | refine e_bin hw ?_ | refine e_una hw ?_ | refine e_and hw ?_ | refine e_or hw ?_ | refine e_ife hw ?_ | refine e_cmp hw ?_ | refine e_cmp2 hw ?_ | refine e_sub hw ?_ | refine e_sl hw ?_ | refine e_tup hw ?_ | refine e_lst hw ?_ | refine e_dct hw ?_ | refine e_isi hw g_law_isinstance g_law_bool nm_bool (by decide) (by decide +kernel) ?_) | (refine isT ?_; first | refine t_not hw ?_ | refine t_and hw ?_ | refine t_or hw ?_ | refine t_cmp hw ?_ | refine t_cmp2 hw ?_ | refine t_name hw ?_ | refine t_call hw ?_ | refine t_sub hw ?_) | (refine isS ?_; first | refine s_ret' hw ?_ | refine s_pass' hw ?_ | refine s_brk' hw ?_ | refine s_cnt' hw ?_ | refine s_exp' hw ?_ | refine s_if' hw ?_ | refine s_put' hw ?_ | refine s_for' hw ?_ (hc := cm_law) | refine y_law_0 hw ?_ | refine y_law_1 hw ?_ | refine y_law_2 hw ?_ | refine y_law_3 hw ?_ | refine y_law_4 hw ?_ | refine y_law_5 hw ?_ | refine y_law_6 hw ?_ | refine y_law_7 hw ?_) | (refine isG ?_; first | refine g_sb hw ?_ (hc := cm_law) | refine g_tp2 hw ?_ (hc := cm_law) | refine z_law_0 hw ?_ | refine z_law_1 hw ?_ | refine z_law_2 hw ?_ | refine z_law_3 hw ?_ | refine z_law_4 hw ?_ | refine z_law_5 hw ?_ | refine z_law_6 hw ?_ | refine z_law_7 hw ?_) | (refine isI ?_; first | refine i_range1' hw g_law_range ?_ | refine i_name hw ?_ | refine i_tup' hw ?_ | refine i_lst' hw ?_) | refine e_and1 ?_ | refine e_and2 ?_ | refine e_or1 ?_ | refine e_or2 ?_ | refine o_none ?_ | refine o_some ?_ | refine p_nil ?_ | refine p_cons ?_ | refine a_nil ?_ | refine a_cons ?_ | refine t_and1 ?_ | refine t_and2 ?_ | refine t_or1 ?_ | refine t_or2 ?_ | refine k_bl ?_ | refine k_int ?_ | refine nd_tru ?_ | refine if_t ?_ | refine if_f ?_ | refine b_nil ?_ | refine b_cons ?_ | refine g_nil ?_ | refine g_cons ?_ | refine o_add ?_ | refine o_sub ?_ | refine o_neg ?_ | refine o_nt ?_ | refine c_lt ?_ | refine c_le ?_ | refine c_gt ?_ | refine c_ge ?_ | refine c_eqI ?_ | refine c_eqS ?_ | refine c_neS ?_ | refine c_neI ?_ | refine c_eqB ?_ | refine if_tc (by decide +kernel) ?_ | refine if_fc (by decide +kernel) ?_ | refine ne_c ?_ | refine isi_non_bool ?_ | refine isi_bl_bool ?_ | refine isi_int_bool ?_ | refine isi_str_bool ?_ | refine isi_tup_bool ?_ | refine isi_rol_bool ?_ | refine isi_ref (by assumption) (by decide) ?_ | refine c_leB1 ?_ | refine c_leB2 ?_ | refine c_neB ?_ | refine c_eqBI ?_ | refine c_isN ?_ | refine c_isNN ?_ | refine c_in2 ?_ | refine c_in3 ?_ | refine c_in4 ?_ | refine c_in5 ?_ | refine c_ni2 ?_ | refine c_ni4 ?_ | refine c_ni5 ?_ | refine c_eqT0 ?_ | refine c_eqT1 ?_ | refine l_tup ?_ | refine l_rol ?_ | refine l_ref (by assumption) ?_ | refine x_d0 (by assumption) ?_ | refine x_d1 (by assumption) ?_ | refine x_d2 (by assumption) ?_ | refine x_d3 (by assumption) ?_ | refine x_d0 tupd_same ?_ | refine x_d1 tupd_same ?_ | refine x_d2 tupd_same ?_ | refine x_d3 tupd_same ?_ | refine d_go4 ?_ | refine r_bl ?_ | refine r_bl4 (by assumption) ?_ | refine r_bl4 tupd_same ?_ | refine m_min ?_ | refine m_max ?_ | refine m_abs ?_ | refine x_t0 ?_ | refine x_t1 ?_ | refine x_t2 ?_) | (refine len_go ?_ ?_; · (simp; done)) | (refine o_mod ?_ ?_; · (first | decide | omega)) | (refine o_pow ⟨by decide, by decide, by decide⟩ ?_) | (refine o_mul (cmul ?_ ?_ ?_ ?_) ?_; (· omega); (· omega); (· omega); (· omega)) | (refine o_div (cdiv ?_ ?_) ?_; (· omega); (· omega)) | (refine if_tc ?_ ?_; · (first | rfl | (simp; done) | (simp; omega))) | (refine if_fc ?_ ?_; · (first | rfl | (simp; done) | (simp; omega))))
        exact hD2 _ _ ⟨f7, _, _, _, _, _, _, rfl⟩
    · refine al_cons tx (al_cons ty (al_cons tz (al_cons hu.1 (al_cons (tg_noref rfl) (al_cons (tg_noref rfl) al_nil)))))
    · obtain ⟨f6, o2, o3, o4, o5, o6, o7, rfl⟩ := hi
      repeat (first | (with_reducible first | (refine isE ?_; first | refine x_law_0 hw ?_ | refine x_law_1 hw ?_ | refine x_law_2 hw ?_ | refine x_law_3 hw ?_ | refine x_law_4 hw ?_ | refine x_law_5 hw ?_ | refine x_law_6 hw ?_ | refine x_law_7 hw ?_ | refine w_law_Lbegin hw ?_ | refine e_bf hw g_law_min b_min (by decide +kernel) (by decide +kernel) ?_ | refine e_bf hw g_law_len b_len (by decide +kernel) (by decide +kernel) ?_ | refine w_law_Lmade hw ?_ | refine w_law_Ltwin hw ?_ | refine w_law_Lodd hw ?_ | refine w_law_Lis_so hw ?_ | refine w_law_is_taker hw ?_ | refine w_law_Lsaid hw ?_ | refine e_none hw ?_ | refine e_bool hw ?_ | refine e_int hw ?_ | refine e_str hw ?_ | refine e_bin hw ?_ | refine e_una hw ?_ | refine e_and hw ?_ | refine e_or hw ?_ | refine e_ife hw ?_ | refine e_cmp hw ?_ | refine e_cmp2 hw ?_ | refine e_sub hw ?_ | refine e_sl hw ?_ | refine e_tup hw ?_ | refine e_lst hw ?_ | refine e_dct hw ?_ | refine e_isi hw g_law_isinstance g_law_bool nm_bool (by decide) (by decide +kernel) ?_) | (refine isT ?_; first | refine t_not hw ?_ | refine t_and hw ?_ | refine t_or hw ?_ | refine t_cmp hw ?_ | refine t_cmp2 hw ?_ | refine t_name hw ?_ | refine t_call hw ?_ | refine t_sub hw ?_) | (refine isS ?_; first | refine s_ret' hw ?_ | refine s_pass' hw ?_ | refine s_brk' hw ?_ | refine s_cnt' hw ?_ | refine s_exp' hw ?_ | refine s_if' hw ?_ | refine s_put' hw ?_ | refine s_for' hw ?_ (hc := cm_law) | refine y_law_0 hw ?_ | refine y_law_1 hw ?_ | refine y_law_2 hw ?_ | refine y_law_3 hw ?_ | refine y_law_4 hw ?_ | refine y_law_5 hw ?_ | refine y_law_6 hw ?_ | refine y_law_7 hw ?_) | (refine isG ?_; first | refine g_sb hw ?_ (hc := cm_law) | refine g_tp2 hw ?_ (hc := cm_law) | refine z_law_0 hw ?_ | refine z_law_1 hw ?_ | refine z_law_2 hw ?_ | refine z_law_3 hw ?_ | refine z_law_4 hw ?_ | refine z_law_5 hw ?_ | refine z_law_6 hw ?_ | refine z_law_7 hw ?_) | (refine isI ?_; first | refine i_range1' hw g_law_range ?_ | refine i_name hw ?_ | refine i_tup' hw ?_ | refine i_lst' hw ?_) | refine e_and1 ?_ | refine e_and2 ?_ | refine e_or1 ?_ | refine e_or2 ?_ | refine o_none ?_ | refine o_some ?_ | refine p_nil ?_ | refine p_cons ?_ | refine a_nil ?_ | refine a_cons ?_ | refine t_and1 ?_ | refine t_and2 ?_ | refine t_or1 ?_ | refine t_or2 ?_ | refine k_bl ?_ | refine k_int ?_ | refine nd_tru ?_ | refine if_t ?_ | refine if_f ?_ | refine b_nil ?_ | refine b_cons ?_ | refine g_nil ?_ | refine g_cons ?_ | refine o_add ?_ | refine o_sub ?_ | refine o_neg ?_ | refine o_nt ?_ | refine c_lt ?_ | refine c_le ?_ | refine c_gt ?_ | refine c_ge ?_ | refine c_eqI ?_ | refine c_eqS ?_ | refine c_neS ?_ | refine c_neI ?_ | refine c_eqB ?_ | refine if_tc (by decide +kernel) ?_ | refine if_fc (by decide +kernel) ?_ | refine ne_c ?_ | refine isi_non_bool ?_ | refine isi_bl_bool ?_ | refine isi_int_bool ?_ | refine isi_str_bool ?_ | refine isi_tup_bool ?_ | refine isi_rol_bool ?_ | refine isi_ref (by assumption) (by decide) ?_ | refine c_leB1 ?_ | refine c_leB2 ?_ | refine c_neB ?_ | refine c_eqBI ?_ | refine c_isN ?_ | refine c_isNN ?_ | refine c_in2 ?_ | refine c_in3 ?_ | refine c_in4 ?_ | refine c_in5 ?_ | refine c_ni2 ?_ | refine c_ni4 ?_ | refine c_ni5 ?_ | refine c_eqT0 ?_ | refine c_eqT1 ?_ | refine l_tup ?_ | refine l_rol ?_ | refine l_ref (by assumption) ?_ | refine x_d0 (by assumption) ?_ | refine x_d1 (by assumption) ?_ | refine x_d2 (by assumption) ?_ | refine x_d3 (by assumption) ?_ | refine x_d0 tupd_same ?_ | refine x_d1 tupd_same ?_ | refine x_d2 tupd_same ?_ | refine x_d3 tupd_same ?_ | refine d_go4 ?_ | refine r_bl ?_ | refine r_bl4 (by assumption) ?_ | refine r_bl4 tupd_same ?_ | refine m_min ?_ | refine m_max ?_ | refine m_abs ?_ | refine x_t0 ?_ | refine x_t1 ?_ | refine x_t2 ?_) | (refine len_go ?_ ?_; · (simp; done)) | (refine o_mod ?_ ?_; · (first | decide | omega)) | (refine o_pow ⟨by decide, by decide, by decide⟩ ?_) | (refine o_mul (cmul ?_ ?_ ?_ ?_) ?_; (· omega); (· omega); (· omega); (· omega)) | (refine o_div (cdiv ?_ ?_) ?_; (· omega); (· omega)) | (refine if_tc ?_ ?_; · (first | rfl | (simp; done) | (simp; omega))) | (refine if_fc ?_ ?_; · (first | rfl | (simp; done) | (simp; omega))))
      exact hD _ _ ⟨(hd5.fr f6).up (by omega), _, _, _, _, _, _, rfl⟩
  · rw [ints_len]
    split <;> omega
  · exact fun x hx => ints_mem hx
  · obtain ⟨hd1, o2, o3, o4, o5, o6, o7, rfl⟩ := hi
    repeat (first | (with_reducible first | (refine isE ?_; first | refine x_law_0 hw ?_ | refine x_law_1 hw ?_ | refine x_law_2 hw ?_ | refine x_law_3 hw ?_ | refine x_law_4 hw ?_ | refine x_law_5 hw ?_ | refine x_law_6 hw ?_ | refine x_law_7 hw ?_ | refine w_law_Lbegin hw ?_ | refine e_bf hw g_law_min b_min (by decide +kernel) (by decide +kernel) ?_ | refine e_bf hw g_law_len b_len (by decide +kernel) (by decide +kernel) ?_ | refine w_law_Lmade hw ?_ | refine w_law_Ltwin hw ?_ | refine w_law_Lodd hw ?_ | refine w_law_Lis_so hw ?_ | refine w_law_is_taker hw ?_ | refine w_law_Lsaid hw ?_ | refine e_none hw ?_ | refine e_bool hw ?_ | refine e_int hw ?_ | refine e_str hw ?_ | refine e_bin hw ?_ | refine e_una hw ?_ | refine e_and hw ?_ | refine e_or hw ?_ | refine e_ife hw ?_ | refine e_cmp hw ?_ | refine e_cmp2 hw ?_ | refine e_sub hw ?_ | refine e_sl hw ?_ | refine e_tup hw ?_ | refine e_lst hw ?_ | refine e_dct hw ?_ | refine e_isi hw g_law_isinstance g_law_bool nm_bool (by decide) (by decide +kernel) ?_) | (refine isT ?_; first | refine t_not hw ?_ | refine t_and hw ?_ | refine t_or hw ?_ | refine t_cmp hw ?_ | refine t_cmp2 hw ?_ | refine t_name hw ?_ | refine t_call hw ?_ | refine t_sub hw ?_) | (refine isS ?_; first | refine s_ret' hw ?_ | refine s_pass' hw ?_ | refine s_brk' hw ?_ | refine s_cnt' hw ?_ | refine s_exp' hw ?_ | refine s_if' hw ?_ | refine s_put' hw ?_ | refine s_for' hw ?_ (hc := cm_law) | refine y_law_0 hw ?_ | refine y_law_1 hw ?_ | refine y_law_2 hw ?_ | refine y_law_3 hw ?_ | refine y_law_4 hw ?_ | refine y_law_5 hw ?_ | refine y_law_6 hw ?_ | refine y_law_7 hw ?_) | (refine isG ?_; first | refine g_sb hw ?_ (hc := cm_law) | refine g_tp2 hw ?_ (hc := cm_law) | refine z_law_0 hw ?_ | refine z_law_1 hw ?_ | refine z_law_2 hw ?_ | refine z_law_3 hw ?_ | refine z_law_4 hw ?_ | refine z_law_5 hw ?_ | refine z_law_6 hw ?_ | refine z_law_7 hw ?_) | (refine isI ?_; first | refine i_range1' hw g_law_range ?_ | refine i_name hw ?_ | refine i_tup' hw ?_ | refine i_lst' hw ?_) | refine e_and1 ?_ | refine e_and2 ?_ | refine e_or1 ?_ | refine e_or2 ?_ | refine o_none ?_ | refine o_some ?_ | refine p_nil ?_ | refine p_cons ?_ | refine a_nil ?_ | refine a_cons ?_ | refine t_and1 ?_ | refine t_and2 ?_ | refine t_or1 ?_ | refine t_or2 ?_ | refine k_bl ?_ | refine k_int ?_ | refine nd_tru ?_ | refine if_t ?_ | refine if_f ?_ | refine b_nil ?_ | refine b_cons ?_ | refine g_nil ?_ | refine g_cons ?_ | refine o_add ?_ | refine o_sub ?_ | refine o_neg ?_ | refine o_nt ?_ | refine c_lt ?_ | refine c_le ?_ | refine c_gt ?_ | refine c_ge ?_ | refine c_eqI ?_ | refine c_eqS ?_ | refine c_neS ?_ | refine c_neI ?_ | refine c_eqB ?_ | refine if_tc (by decide +kernel) ?_ | refine if_fc (by decide +kernel) ?_ | refine ne_c ?_ | refine isi_non_bool ?_ | refine isi_bl_bool ?_ | refine isi_int_bool ?_ | refine isi_str_bool ?_ | refine isi_tup_bool ?_ | refine isi_rol_bool ?_ | refine isi_ref (by assumption) (by decide) ?_ | refine c_leB1 ?_ | refine c_leB2 ?_ | refine c_neB ?_ | refine c_eqBI ?_ | refine c_isN ?_ | refine c_isNN ?_ | refine c_in2 ?_ | refine c_in3 ?_ | refine c_in4 ?_ | refine c_in5 ?_ | refine c_ni2 ?_ | refine c_ni4 ?_ | refine c_ni5 ?_ | refine c_eqT0 ?_ | refine c_eqT1 ?_ | refine l_tup ?_ | refine l_rol ?_ | refine l_ref (by assumption) ?_ | refine x_d0 (by assumption) ?_ | refine x_d1 (by assumption) ?_ | refine x_d2 (by assumption) ?_ | refine x_d3 (by assumption) ?_ | refine x_d0 tupd_same ?_ | refine x_d1 tupd_same ?_ | refine x_d2 tupd_same ?_ | refine x_d3 tupd_same ?_ | refine d_go4 ?_ | refine r_bl ?_ | refine r_bl4 (by assumption) ?_ | refine r_bl4 tupd_same ?_ | refine m_min ?_ | refine m_max ?_ | refine m_abs ?_ | refine x_t0 ?_ | refine x_t1 ?_ | refine x_t2 ?_) | (refine len_go ?_ ?_; · (simp; done)) | (refine o_mod ?_ ?_; · (first | decide | omega)) | (refine o_pow ⟨by decide, by decide, by decide⟩ ?_) | (refine o_mul (cmul ?_ ?_ ?_ ?_) ?_; (· omega); (· omega); (· omega); (· omega)) | (refine o_div (cdiv ?_ ?_) ?_; (· omega); (· omega)) | (refine if_tc ?_ ?_; · (first | rfl | (simp; done) | (simp; omega))) | (refine if_fc ?_ ?_; · (first | rfl | (simp; done) | (simp; omega))))
    exact h _
end K06


set_option Elab.async false
set_option linter.all false
set_option maxRecDepth 100000
namespace TL
open PySem PySem.Spec PyProof.Rows L2
section
variable {P : Program} {w : World} {K : PySem.W.Frag} {mg : Str → Option Value} {base : Heap} {k : Nat}
theorem relS {x : Str} {t : Tok} : RelV (.str x) (.str x t) := ⟨t, rfl⟩
theorem relI {x : Int} {t : Tok} : RelV (.int x) (.int x t) := ⟨t, rfl⟩
def FnA (P : Program) (w : World) (K : PySem.W.Frag) (mg : Str → Option Value) (base : Heap) (k : Nat) (x : Str) (sp : TSp) : Prop := ∃ f fd ps, mg x = some (.ref f) ∧ PySem.W.keepIn K (.ref f) = true ∧ FnG P w K mg base k f fd ps (lowSp K mg ps.length sp) ∧ Binds K fd ps [] ∧ ∀ vs H E Q, sp vs H E Q → vs.length = ps.length
def ConA (K : PySem.W.Frag) (mg : Str → Option Value) (x : Str) (v : TV) : Prop := ∃ u v', mg x = some u ∧ RelV v' u ∧ ∀ H, RT K H v v'
theorem FnA.up {j : Nat} {x : Str} {sp : TSp} (h : FnA P w K mg base j x sp) (l : j ≤ k) : FnA P w K mg base k x sp := by
  obtain ⟨f, fd, ps, a, b, c, d⟩ := h
  exact ⟨f, fd, ps, a, b, c.mono l, d⟩
def ClsA (K : PySem.W.Frag) (mg : Str → Option Value) (p : Str × CI) : Prop := ∃ C, mg p.1 = some (.ref C) ∧ ClsF K mg C p.2.rel p.2.fld
theorem env_of {fs : List (Str × TSp)} {cs : List (Str × TV)} {ks : List (Str × CI)} (hz : ∀ x ∈ bNames, mg x = none) (hf : ∀ p ∈ fs, FnA P w K mg base k p.1 p.2) (hc : ∀ p ∈ cs, ConA K mg p.1 p.2) (hk : ∀ p ∈ ks, ClsA K mg p) (hx : ∀ p ∈ ks, XkA P w K mg base k p.1 p.2.xk) : Env1 P w K mg base k (gOf fs cs ks) :=
  ⟨hz, fun x sp e => hf (x, sp) (PySem.mem_of_lookup e), fun x v e => hc (x, v) (PySem.mem_of_lookup e), fun c ci e => hk (c, ci) (PySem.mem_of_lookup e), fun c ci e => hx (c, ci) (PySem.mem_of_lookup e)⟩
theorem noneA {α : Type} {R : α → Prop} : ∀ p ∈ ([] : List α), R p := fun _ h => by cases h
theorem consA {α : Type} {R : α → Prop} {x : α} {l : List α} (h : R x) (t : ∀ y ∈ l, R y) : ∀ y ∈ x :: l, R y := fun y m => by
  rcases List.mem_cons.mp m with e | m
  · rw [e]; exact h
  · exact t y m
/-- a promise that is never asked -/
theorem FnA.bot {x : Str} {st : Stmt} {f : Addr} {fd : FuncData} {ps : List Str} {sp : TSp} (F : Fun K x x st f fd) (hm : mg x = some (.ref f)) (hb : ∀ vs H E Q, sp vs H E Q → False)
    (h : ∀ (kV doc pm : Value) (an : Option Addr) (cdv ct : Value) (us : List Value), us.length = ps.length → bindArgs (PySem.W.fnOf x x (defArgs st) (defBody st) (defScope st) .none kV doc pm an cdv ct) ⟨us, []⟩ = pure (ps.zip us)) : FnA P w K mg base k x sp :=
  ⟨f, fd, ps, hm, F.kp, ⟨fun vs H Q E ⟨_, _, _, _, _, _, _, q, _⟩ => (hb _ _ _ _ q).elim, fun A outer s H args us vs Q E _ _ _ _ _ ⟨_, _, _, _, _, _, _, q, _⟩ => (hb _ _ _ _ q).elim⟩, F.binds h, fun vs H E Q q => (hb _ _ _ _ q).elim⟩
theorem rec_all {R : Nat → Prop} (h0 : R 0) (h : ∀ m, R m → R (m + 1)) : ∀ m, R m
  | 0 => h0
  | m + 1 => h m (rec_all h0 h m)
end
end TL
namespace K06
open PySem PySem.Spec PyProof.Rows L2 TL
theorem len_Lbegin {vs : List TV} {H : TH} {E : TX} {Q : TQ} (h : sp_Lbegin vs H E Q) : vs.length = 1 := by
  first
    | (obtain ⟨_, rfl, _⟩ := h; rfl)
    | (obtain ⟨_, _, rfl, _⟩ := h; rfl)
    | (obtain ⟨_, _, _, rfl, _⟩ := h; rfl)
    | (obtain ⟨_, _, _, _, rfl, _⟩ := h; rfl)
theorem ok_Lbegin {P : Program} {w : World} {K : PySem.W.Frag} {mg : Str → Option Value} {base : Heap} {f : Addr} {fd : FuncData} (F : Fun K "_law_begin" "_law_begin" st_Lbegin f fd) (hm : mg "_law_begin" = some (.ref f)) (V : Env1 P w K mg base 0 G_Lbegin) : FnA P w K mg base 1 "_law_begin" sp_Lbegin := by
  refine ⟨f, fd, ["_law_script"], hm, F.kp, fnG_of (n := 40) F sc_Lbegin V (fun vs H E Q h => len_Lbegin h) (fun vs H E Q h => ?_), F.binds (ps := ["_law_script"]) (fun _ _ _ _ _ _ us hl => match us, hl with | [_], _ => rfl), fun vs H E Q h => len_Lbegin h⟩
  match vs, len_Lbegin h, h with
  | [v0], _, h => exact bd_Lbegin steps_wp h
theorem len_Lmixed {vs : List TV} {H : TH} {E : TX} {Q : TQ} (h : sp_Lmixed vs H E Q) : vs.length = 2 := by
  first
    | (obtain ⟨_, rfl, _⟩ := h; rfl)
    | (obtain ⟨_, _, rfl, _⟩ := h; rfl)
    | (obtain ⟨_, _, _, rfl, _⟩ := h; rfl)
    | (obtain ⟨_, _, _, _, rfl, _⟩ := h; rfl)
theorem ok_Lmixed {P : Program} {w : World} {K : PySem.W.Frag} {mg : Str → Option Value} {base : Heap} {f : Addr} {fd : FuncData} (F : Fun K "_law_mixed" "_law_mixed" st_Lmixed f fd) (hm : mg "_law_mixed" = some (.ref f)) (V : Env1 P w K mg base 0 G_Lmixed) : FnA P w K mg base 1 "_law_mixed" sp_Lmixed := by
  refine ⟨f, fd, ["_law_cell", "_law_k"], hm, F.kp, fnG_of (n := 40) F sc_Lmixed V (fun vs H E Q h => len_Lmixed h) (fun vs H E Q h => ?_), F.binds (ps := ["_law_cell", "_law_k"]) (fun _ _ _ _ _ _ us hl => match us, hl with | [_, _], _ => rfl), fun vs H E Q h => len_Lmixed h⟩
  match vs, len_Lmixed h, h with
  | [v0, v1], _, h => exact bd_Lmixed steps_wp h
theorem len_Lnext {vs : List TV} {H : TH} {E : TX} {Q : TQ} (h : sp_Lnext vs H E Q) : vs.length = 2 := by
  first
    | (obtain ⟨_, rfl, _⟩ := h; rfl)
    | (obtain ⟨_, _, rfl, _⟩ := h; rfl)
    | (obtain ⟨_, _, _, rfl, _⟩ := h; rfl)
    | (obtain ⟨_, _, _, _, rfl, _⟩ := h; rfl)
theorem ok_Lnext {P : Program} {w : World} {K : PySem.W.Frag} {mg : Str → Option Value} {base : Heap} {f : Addr} {fd : FuncData} (F : Fun K "_law_next" "_law_next" st_Lnext f fd) (hm : mg "_law_next" = some (.ref f)) (V : Env1 P w K mg base 1 G_Lnext) : FnA P w K mg base 2 "_law_next" sp_Lnext := by
  refine ⟨f, fd, ["_law_draw", "_law_many"], hm, F.kp, fnG_of (n := 40) F sc_Lnext V (fun vs H E Q h => len_Lnext h) (fun vs H E Q h => ?_), F.binds (ps := ["_law_draw", "_law_many"]) (fun _ _ _ _ _ _ us hl => match us, hl with | [_, _], _ => rfl), fun vs H E Q h => len_Lnext h⟩
  match vs, len_Lnext h, h with
  | [v0, v1], _, h => exact bd_Lnext steps_wp h
theorem len_Lodd {vs : List TV} {H : TH} {E : TX} {Q : TQ} (h : sp_Lodd vs H E Q) : vs.length = 1 := by
  first
    | (obtain ⟨_, rfl, _⟩ := h; rfl)
    | (obtain ⟨_, _, rfl, _⟩ := h; rfl)
    | (obtain ⟨_, _, _, rfl, _⟩ := h; rfl)
    | (obtain ⟨_, _, _, _, rfl, _⟩ := h; rfl)
theorem ok_Lodd {P : Program} {w : World} {K : PySem.W.Frag} {mg : Str → Option Value} {base : Heap} {f : Addr} {fd : FuncData} (F : Fun K "_law_odd" "_law_odd" st_Lodd f fd) (hm : mg "_law_odd" = some (.ref f)) (V : Env1 P w K mg base 2 G_Lodd) : FnA P w K mg base 3 "_law_odd" sp_Lodd := by
  refine ⟨f, fd, ["_law_draw"], hm, F.kp, fnG_of (n := 40) F sc_Lodd V (fun vs H E Q h => len_Lodd h) (fun vs H E Q h => ?_), F.binds (ps := ["_law_draw"]) (fun _ _ _ _ _ _ us hl => match us, hl with | [_], _ => rfl), fun vs H E Q h => len_Lodd h⟩
  match vs, len_Lodd h, h with
  | [v0], _, h => exact bd_Lodd steps_wp h
theorem len_Lmade {vs : List TV} {H : TH} {E : TX} {Q : TQ} (h : sp_Lmade vs H E Q) : vs.length = 1 := by
  first
    | (obtain ⟨_, rfl, _⟩ := h; rfl)
    | (obtain ⟨_, _, rfl, _⟩ := h; rfl)
    | (obtain ⟨_, _, _, rfl, _⟩ := h; rfl)
    | (obtain ⟨_, _, _, _, rfl, _⟩ := h; rfl)
theorem ok_Lmade {P : Program} {w : World} {K : PySem.W.Frag} {mg : Str → Option Value} {base : Heap} {f : Addr} {fd : FuncData} (F : Fun K "_law_made" "_law_made" st_Lmade f fd) (hm : mg "_law_made" = some (.ref f)) (V : Env1 P w K mg base 3 G_Lmade) : FnA P w K mg base 4 "_law_made" sp_Lmade := by
  refine ⟨f, fd, ["_law_draw"], hm, F.kp, fnG_of (n := 40) F sc_Lmade V (fun vs H E Q h => len_Lmade h) (fun vs H E Q h => ?_), F.binds (ps := ["_law_draw"]) (fun _ _ _ _ _ _ us hl => match us, hl with | [_], _ => rfl), fun vs H E Q h => len_Lmade h⟩
  match vs, len_Lmade h, h with
  | [v0], _, h => exact bd_Lmade steps_wp h
theorem len_Ltwin {vs : List TV} {H : TH} {E : TX} {Q : TQ} (h : sp_Ltwin vs H E Q) : vs.length = 1 := by
  first
    | (obtain ⟨_, rfl, _⟩ := h; rfl)
    | (obtain ⟨_, _, rfl, _⟩ := h; rfl)
    | (obtain ⟨_, _, _, rfl, _⟩ := h; rfl)
    | (obtain ⟨_, _, _, _, rfl, _⟩ := h; rfl)
theorem lenr_Ltwin {m : Nat} {vs : List TV} {H : TH} {E : TX} {Q : TQ} (h : spr_Ltwin m vs H E Q) : vs.length = 1 := by
  first
    | (obtain ⟨_, rfl, _⟩ := h; rfl)
    | (obtain ⟨_, _, rfl, _⟩ := h; rfl)
    | (obtain ⟨_, _, _, rfl, _⟩ := h; rfl)
    | (obtain ⟨_, _, _, _, rfl, _⟩ := h; rfl)
theorem ok_Ltwin {P : Program} {w : World} {K : PySem.W.Frag} {mg : Str → Option Value} {base : Heap} {f : Addr} {fd : FuncData} {k m : Nat} (F : Fun K "_law_twin" "_law_twin" st_Ltwin f fd) (hm : mg "_law_twin" = some (.ref f)) (V : Env1 P w K mg base k (G_Ltwin m)) : FnA P w K mg base (k + 1) "_law_twin" (spr_Ltwin (m + 1)) := by
  refine ⟨f, fd, ["_law_thing"], hm, F.kp, fnG_of (n := 40) F sc_Ltwin V (fun vs H E Q h => lenr_Ltwin h) (fun vs H E Q h => ?_), F.binds (ps := ["_law_thing"]) (fun _ _ _ _ _ _ us hl => match us, hl with | [_], _ => rfl), fun vs H E Q h => lenr_Ltwin h⟩
  match vs, lenr_Ltwin h, h with
  | [v0], _, h => exact bd_Ltwin steps_wp h
theorem len_Lis_within {vs : List TV} {H : TH} {E : TX} {Q : TQ} (h : sp_Lis_within vs H E Q) : vs.length = 3 := by
  first
    | (obtain ⟨_, rfl, _⟩ := h; rfl)
    | (obtain ⟨_, _, rfl, _⟩ := h; rfl)
    | (obtain ⟨_, _, _, rfl, _⟩ := h; rfl)
    | (obtain ⟨_, _, _, _, rfl, _⟩ := h; rfl)
theorem ok_Lis_within {P : Program} {w : World} {K : PySem.W.Frag} {mg : Str → Option Value} {base : Heap} {f : Addr} {fd : FuncData} (F : Fun K "_law_is_within" "_law_is_within" st_Lis_within f fd) (hm : mg "_law_is_within" = some (.ref f)) (V : Env1 P w K mg base 0 G_Lis_within) : FnA P w K mg base 1 "_law_is_within" sp_Lis_within := by
  refine ⟨f, fd, ["_law_thing", "_law_least", "_law_most"], hm, F.kp, fnG_of (n := 40) F sc_Lis_within V (fun vs H E Q h => len_Lis_within h) (fun vs H E Q h => ?_), F.binds (ps := ["_law_thing", "_law_least", "_law_most"]) (fun _ _ _ _ _ _ us hl => match us, hl with | [_, _, _], _ => rfl), fun vs H E Q h => len_Lis_within h⟩
  match vs, len_Lis_within h, h with
  | [v0, v1, v2], _, h => exact bd_Lis_within steps_wp h
theorem len_Lis_test {vs : List TV} {H : TH} {E : TX} {Q : TQ} (h : sp_Lis_test vs H E Q) : vs.length = 1 := by
  first
    | (obtain ⟨_, rfl, _⟩ := h; rfl)
    | (obtain ⟨_, _, rfl, _⟩ := h; rfl)
    | (obtain ⟨_, _, _, rfl, _⟩ := h; rfl)
    | (obtain ⟨_, _, _, _, rfl, _⟩ := h; rfl)
theorem ok_Lis_test {P : Program} {w : World} {K : PySem.W.Frag} {mg : Str → Option Value} {base : Heap} {f : Addr} {fd : FuncData} (F : Fun K "_law_is_test" "_law_is_test" st_Lis_test f fd) (hm : mg "_law_is_test" = some (.ref f)) (V : Env1 P w K mg base 1 G_Lis_test) : FnA P w K mg base 2 "_law_is_test" sp_Lis_test := by
  refine ⟨f, fd, ["_law_thing"], hm, F.kp, fnG_of (n := 40) F sc_Lis_test V (fun vs H E Q h => len_Lis_test h) (fun vs H E Q h => ?_), F.binds (ps := ["_law_thing"]) (fun _ _ _ _ _ _ us hl => match us, hl with | [_], _ => rfl), fun vs H E Q h => len_Lis_test h⟩
  match vs, len_Lis_test h, h with
  | [v0], _, h => exact bd_Lis_test steps_wp h
theorem len_Lis_so {vs : List TV} {H : TH} {E : TX} {Q : TQ} (h : sp_Lis_so vs H E Q) : vs.length = 1 := by
  first
    | (obtain ⟨_, rfl, _⟩ := h; rfl)
    | (obtain ⟨_, _, rfl, _⟩ := h; rfl)
    | (obtain ⟨_, _, _, rfl, _⟩ := h; rfl)
    | (obtain ⟨_, _, _, _, rfl, _⟩ := h; rfl)
theorem ok_Lis_so {P : Program} {w : World} {K : PySem.W.Frag} {mg : Str → Option Value} {base : Heap} {f : Addr} {fd : FuncData} (F : Fun K "_law_is_so" "_law_is_so" st_Lis_so f fd) (hm : mg "_law_is_so" = some (.ref f)) (V : Env1 P w K mg base 2 G_Lis_so) : FnA P w K mg base 3 "_law_is_so" sp_Lis_so := by
  refine ⟨f, fd, ["_law_thing"], hm, F.kp, fnG_of (n := 40) F sc_Lis_so V (fun vs H E Q h => len_Lis_so h) (fun vs H E Q h => ?_), F.binds (ps := ["_law_thing"]) (fun _ _ _ _ _ _ us hl => match us, hl with | [_], _ => rfl), fun vs H E Q h => len_Lis_so h⟩
  match vs, len_Lis_so h, h with
  | [v0], _, h => exact bd_Lis_so steps_wp h
theorem len_is_whole {vs : List TV} {H : TH} {E : TX} {Q : TQ} (h : sp_is_whole vs H E Q) : vs.length = 3 := by
  first
    | (obtain ⟨_, rfl, _⟩ := h; rfl)
    | (obtain ⟨_, _, rfl, _⟩ := h; rfl)
    | (obtain ⟨_, _, _, rfl, _⟩ := h; rfl)
    | (obtain ⟨_, _, _, _, rfl, _⟩ := h; rfl)
theorem ok_is_whole {P : Program} {w : World} {K : PySem.W.Frag} {mg : Str → Option Value} {base : Heap} {f : Addr} {fd : FuncData} (F : Fun K "is_whole" "is_whole" st_is_whole f fd) (hm : mg "is_whole" = some (.ref f)) (V : Env1 P w K mg base 0 G_is_whole) : FnA P w K mg base 1 "is_whole" sp_is_whole := by
  refine ⟨f, fd, ["thing", "least", "most"], hm, F.kp, fnG_of (n := 40) F sc_is_whole V (fun vs H E Q h => len_is_whole h) (fun vs H E Q h => ?_), F.binds (ps := ["thing", "least", "most"]) (fun _ _ _ _ _ _ us hl => match us, hl with | [_, _, _], _ => rfl), fun vs H E Q h => len_is_whole h⟩
  match vs, len_is_whole h, h with
  | [v0, v1, v2], _, h => exact bd_is_whole steps_wp h
theorem len_is_word_of {vs : List TV} {H : TH} {E : TX} {Q : TQ} (h : sp_is_word_of vs H E Q) : vs.length = 2 := by
  first
    | (obtain ⟨_, rfl, _⟩ := h; rfl)
    | (obtain ⟨_, _, rfl, _⟩ := h; rfl)
    | (obtain ⟨_, _, _, rfl, _⟩ := h; rfl)
    | (obtain ⟨_, _, _, _, rfl, _⟩ := h; rfl)
theorem ok_is_word_of {P : Program} {w : World} {K : PySem.W.Frag} {mg : Str → Option Value} {base : Heap} {f : Addr} {fd : FuncData} (F : Fun K "is_word_of" "is_word_of" st_is_word_of f fd) (hm : mg "is_word_of" = some (.ref f)) (V : Env1 P w K mg base 0 G_is_word_of) : FnA P w K mg base 1 "is_word_of" sp_is_word_of := by
  refine ⟨f, fd, ["thing", "words"], hm, F.kp, fnG_of (n := 40) F sc_is_word_of V (fun vs H E Q h => len_is_word_of h) (fun vs H E Q h => ?_), F.binds (ps := ["thing", "words"]) (fun _ _ _ _ _ _ us hl => match us, hl with | [_, _], _ => rfl), fun vs H E Q h => len_is_word_of h⟩
  match vs, len_is_word_of h, h with
  | [v0, v1], _, h => exact bd_is_word_of steps_wp h
theorem len_is_number {vs : List TV} {H : TH} {E : TX} {Q : TQ} (h : sp_is_number vs H E Q) : vs.length = 1 := by
  first
    | (obtain ⟨_, rfl, _⟩ := h; rfl)
    | (obtain ⟨_, _, rfl, _⟩ := h; rfl)
    | (obtain ⟨_, _, _, rfl, _⟩ := h; rfl)
    | (obtain ⟨_, _, _, _, rfl, _⟩ := h; rfl)
theorem ok_is_number {P : Program} {w : World} {K : PySem.W.Frag} {mg : Str → Option Value} {base : Heap} {f : Addr} {fd : FuncData} (F : Fun K "is_number" "is_number" st_is_number f fd) (hm : mg "is_number" = some (.ref f)) (V : Env1 P w K mg base 1 G_is_number) : FnA P w K mg base 2 "is_number" sp_is_number := by
  refine ⟨f, fd, ["thing"], hm, F.kp, fnG_of (n := 40) F sc_is_number V (fun vs H E Q h => len_is_number h) (fun vs H E Q h => ?_), F.binds (ps := ["thing"]) (fun _ _ _ _ _ _ us hl => match us, hl with | [_], _ => rfl), fun vs H E Q h => len_is_number h⟩
  match vs, len_is_number h, h with
  | [v0], _, h => exact bd_is_number steps_wp h
theorem len_is_test {vs : List TV} {H : TH} {E : TX} {Q : TQ} (h : sp_is_test vs H E Q) : vs.length = 1 := by
  first
    | (obtain ⟨_, rfl, _⟩ := h; rfl)
    | (obtain ⟨_, _, rfl, _⟩ := h; rfl)
    | (obtain ⟨_, _, _, rfl, _⟩ := h; rfl)
    | (obtain ⟨_, _, _, _, rfl, _⟩ := h; rfl)
theorem ok_is_test {P : Program} {w : World} {K : PySem.W.Frag} {mg : Str → Option Value} {base : Heap} {f : Addr} {fd : FuncData} (F : Fun K "is_test" "is_test" st_is_test f fd) (hm : mg "is_test" = some (.ref f)) (V : Env1 P w K mg base 2 G_is_test) : FnA P w K mg base 3 "is_test" sp_is_test := by
  refine ⟨f, fd, ["thing"], hm, F.kp, fnG_of (n := 40) F sc_is_test V (fun vs H E Q h => len_is_test h) (fun vs H E Q h => ?_), F.binds (ps := ["thing"]) (fun _ _ _ _ _ _ us hl => match us, hl with | [_], _ => rfl), fun vs H E Q h => len_is_test h⟩
  match vs, len_is_test h, h with
  | [v0], _, h => exact bd_is_test steps_wp h
theorem len_is_op {vs : List TV} {H : TH} {E : TX} {Q : TQ} (h : sp_is_op vs H E Q) : vs.length = 1 := by
  first
    | (obtain ⟨_, rfl, _⟩ := h; rfl)
    | (obtain ⟨_, _, rfl, _⟩ := h; rfl)
    | (obtain ⟨_, _, _, rfl, _⟩ := h; rfl)
    | (obtain ⟨_, _, _, _, rfl, _⟩ := h; rfl)
theorem ok_is_op {P : Program} {w : World} {K : PySem.W.Frag} {mg : Str → Option Value} {base : Heap} {f : Addr} {fd : FuncData} (F : Fun K "is_op" "is_op" st_is_op f fd) (hm : mg "is_op" = some (.ref f)) (V : Env1 P w K mg base 1 G_is_op) : FnA P w K mg base 2 "is_op" sp_is_op := by
  refine ⟨f, fd, ["thing"], hm, F.kp, fnG_of (n := 40) F sc_is_op V (fun vs H E Q h => len_is_op h) (fun vs H E Q h => ?_), F.binds (ps := ["thing"]) (fun _ _ _ _ _ _ us hl => match us, hl with | [_], _ => rfl), fun vs H E Q h => len_is_op h⟩
  match vs, len_is_op h, h with
  | [v0], _, h => exact bd_is_op steps_wp h
theorem len_is_taker {vs : List TV} {H : TH} {E : TX} {Q : TQ} (h : sp_is_taker vs H E Q) : vs.length = 1 := by
  first
    | (obtain ⟨_, rfl, _⟩ := h; rfl)
    | (obtain ⟨_, _, rfl, _⟩ := h; rfl)
    | (obtain ⟨_, _, _, rfl, _⟩ := h; rfl)
    | (obtain ⟨_, _, _, _, rfl, _⟩ := h; rfl)
theorem ok_is_taker {P : Program} {w : World} {K : PySem.W.Frag} {mg : Str → Option Value} {base : Heap} {f : Addr} {fd : FuncData} (F : Fun K "is_taker" "is_taker" st_is_taker f fd) (hm : mg "is_taker" = some (.ref f)) (V : Env1 P w K mg base 3 G_is_taker) : FnA P w K mg base 4 "is_taker" sp_is_taker := by
  refine ⟨f, fd, ["thing"], hm, F.kp, fnG_of (n := 40) F sc_is_taker V (fun vs H E Q h => len_is_taker h) (fun vs H E Q h => ?_), F.binds (ps := ["thing"]) (fun _ _ _ _ _ _ us hl => match us, hl with | [_], _ => rfl), fun vs H E Q h => len_is_taker h⟩
  match vs, len_is_taker h, h with
  | [v0], _, h => exact bd_is_taker steps_wp h
theorem len_need_taker {vs : List TV} {H : TH} {E : TX} {Q : TQ} (h : sp_need_taker vs H E Q) : vs.length = 1 := by
  first
    | (obtain ⟨_, rfl, _⟩ := h; rfl)
    | (obtain ⟨_, _, rfl, _⟩ := h; rfl)
    | (obtain ⟨_, _, _, rfl, _⟩ := h; rfl)
    | (obtain ⟨_, _, _, _, rfl, _⟩ := h; rfl)
theorem ok_need_taker {P : Program} {w : World} {K : PySem.W.Frag} {mg : Str → Option Value} {base : Heap} {f : Addr} {fd : FuncData} (F : Fun K "need_taker" "need_taker" st_need_taker f fd) (hm : mg "need_taker" = some (.ref f)) (V : Env1 P w K mg base 4 G_need_taker) : FnA P w K mg base 5 "need_taker" sp_need_taker := by
  refine ⟨f, fd, ["thing"], hm, F.kp, fnG_of (n := 40) F sc_need_taker V (fun vs H E Q h => len_need_taker h) (fun vs H E Q h => ?_), F.binds (ps := ["thing"]) (fun _ _ _ _ _ _ us hl => match us, hl with | [_], _ => rfl), fun vs H E Q h => len_need_taker h⟩
  match vs, len_need_taker h, h with
  | [v0], _, h => exact bd_need_taker steps_wp h
theorem len_Lsaid {vs : List TV} {H : TH} {E : TX} {Q : TQ} (h : sp_Lsaid vs H E Q) : vs.length = 1 := by
  first
    | (obtain ⟨_, rfl, _⟩ := h; rfl)
    | (obtain ⟨_, _, rfl, _⟩ := h; rfl)
    | (obtain ⟨_, _, _, rfl, _⟩ := h; rfl)
    | (obtain ⟨_, _, _, _, rfl, _⟩ := h; rfl)
theorem ok_Lsaid {P : Program} {w : World} {K : PySem.W.Frag} {mg : Str → Option Value} {base : Heap} {f : Addr} {fd : FuncData} (F : Fun K "_law_said" "_law_said" st_Lsaid f fd) (hm : mg "_law_said" = some (.ref f)) (V : Env1 P w K mg base 5 G_Lsaid) : FnA P w K mg base 6 "_law_said" sp_Lsaid := by
  refine ⟨f, fd, ["_law_thing"], hm, F.kp, fnG_of (n := 40) F sc_Lsaid V (fun vs H E Q h => len_Lsaid h) (fun vs H E Q h => ?_), F.binds (ps := ["_law_thing"]) (fun _ _ _ _ _ _ us hl => match us, hl with | [_], _ => rfl), fun vs H E Q h => len_Lsaid h⟩
  match vs, len_Lsaid h, h with
  | [v0], _, h => exact bd_Lsaid steps_wp h
theorem len_law {vs : List TV} {H : TH} {E : TX} {Q : TQ} (h : sp_law vs H E Q) : vs.length = 1 := by
  first
    | (obtain ⟨_, rfl, _⟩ := h; rfl)
    | (obtain ⟨_, _, rfl, _⟩ := h; rfl)
    | (obtain ⟨_, _, _, rfl, _⟩ := h; rfl)
    | (obtain ⟨_, _, _, _, rfl, _⟩ := h; rfl)
theorem ok_law {P : Program} {w : World} {K : PySem.W.Frag} {mg : Str → Option Value} {base : Heap} {f : Addr} {fd : FuncData} (F : Fun K "law" "law" st_law f fd) (hm : mg "law" = some (.ref f)) (V : Env1 P w K mg base 6 G_law) : FnA P w K mg base 7 "law" sp_law := by
  refine ⟨f, fd, ["_law_script"], hm, F.kp, fnG_of (n := 40) F sc_law V (fun vs H E Q h => len_law h) (fun vs H E Q h => ?_), F.binds (ps := ["_law_script"]) (fun _ _ _ _ _ _ us hl => match us, hl with | [_], _ => rfl), fun vs H E Q h => len_law h⟩
  match vs, len_law h, h with
  | [v0], _, h => exact bd_law steps_wp h
theorem all_mk {l : PySem.W.OpenLaw} {w : World} {K : PySem.W.Frag} {h : Heap} {mg : Str → Option Value} {fa : Addr} (X : K.In h) (G : h.Ns mainGlobals mg) (hfa : mg "law" = some (.ref fa)) {f_Lbegin : Addr} {od_Lbegin an_Lbegin : Option Addr} {sl_Lbegin : Array (Option Value)} {oc_Lbegin kV_Lbegin dc_Lbegin pm_Lbegin cd_Lbegin ct_Lbegin : Value}
    (a_Lbegin : PySem.W.nsIn K mainGlobals "_law_begin" = some (some (.ref f_Lbegin)))
    (l_Lbegin : K.lookup f_Lbegin = some ⟨oc_Lbegin, od_Lbegin, .func (PySem.W.fnOf "_law_begin" "_law_begin" (defArgs st_Lbegin) (defBody st_Lbegin) (defScope st_Lbegin) .none kV_Lbegin dc_Lbegin pm_Lbegin an_Lbegin cd_Lbegin ct_Lbegin), sl_Lbegin⟩)
    (c_Lbegin : PySem.W.codeIn K cd_Lbegin "_law_begin" = true)
    (k_Lbegin : PySem.W.keepIn K (.ref f_Lbegin) = true)
    {f_Lmixed : Addr} {od_Lmixed an_Lmixed : Option Addr} {sl_Lmixed : Array (Option Value)} {oc_Lmixed kV_Lmixed dc_Lmixed pm_Lmixed cd_Lmixed ct_Lmixed : Value}
    (a_Lmixed : PySem.W.nsIn K mainGlobals "_law_mixed" = some (some (.ref f_Lmixed)))
    (l_Lmixed : K.lookup f_Lmixed = some ⟨oc_Lmixed, od_Lmixed, .func (PySem.W.fnOf "_law_mixed" "_law_mixed" (defArgs st_Lmixed) (defBody st_Lmixed) (defScope st_Lmixed) .none kV_Lmixed dc_Lmixed pm_Lmixed an_Lmixed cd_Lmixed ct_Lmixed), sl_Lmixed⟩)
    (c_Lmixed : PySem.W.codeIn K cd_Lmixed "_law_mixed" = true)
    (k_Lmixed : PySem.W.keepIn K (.ref f_Lmixed) = true)
    {f_Lnext : Addr} {od_Lnext an_Lnext : Option Addr} {sl_Lnext : Array (Option Value)} {oc_Lnext kV_Lnext dc_Lnext pm_Lnext cd_Lnext ct_Lnext : Value}
    (a_Lnext : PySem.W.nsIn K mainGlobals "_law_next" = some (some (.ref f_Lnext)))
    (l_Lnext : K.lookup f_Lnext = some ⟨oc_Lnext, od_Lnext, .func (PySem.W.fnOf "_law_next" "_law_next" (defArgs st_Lnext) (defBody st_Lnext) (defScope st_Lnext) .none kV_Lnext dc_Lnext pm_Lnext an_Lnext cd_Lnext ct_Lnext), sl_Lnext⟩)
    (c_Lnext : PySem.W.codeIn K cd_Lnext "_law_next" = true)
    (k_Lnext : PySem.W.keepIn K (.ref f_Lnext) = true)
    {f_Lodd : Addr} {od_Lodd an_Lodd : Option Addr} {sl_Lodd : Array (Option Value)} {oc_Lodd kV_Lodd dc_Lodd pm_Lodd cd_Lodd ct_Lodd : Value}
    (a_Lodd : PySem.W.nsIn K mainGlobals "_law_odd" = some (some (.ref f_Lodd)))
    (l_Lodd : K.lookup f_Lodd = some ⟨oc_Lodd, od_Lodd, .func (PySem.W.fnOf "_law_odd" "_law_odd" (defArgs st_Lodd) (defBody st_Lodd) (defScope st_Lodd) .none kV_Lodd dc_Lodd pm_Lodd an_Lodd cd_Lodd ct_Lodd), sl_Lodd⟩)
    (c_Lodd : PySem.W.codeIn K cd_Lodd "_law_odd" = true)
    (k_Lodd : PySem.W.keepIn K (.ref f_Lodd) = true)
    {f_Lmade : Addr} {od_Lmade an_Lmade : Option Addr} {sl_Lmade : Array (Option Value)} {oc_Lmade kV_Lmade dc_Lmade pm_Lmade cd_Lmade ct_Lmade : Value}
    (a_Lmade : PySem.W.nsIn K mainGlobals "_law_made" = some (some (.ref f_Lmade)))
    (l_Lmade : K.lookup f_Lmade = some ⟨oc_Lmade, od_Lmade, .func (PySem.W.fnOf "_law_made" "_law_made" (defArgs st_Lmade) (defBody st_Lmade) (defScope st_Lmade) .none kV_Lmade dc_Lmade pm_Lmade an_Lmade cd_Lmade ct_Lmade), sl_Lmade⟩)
    (c_Lmade : PySem.W.codeIn K cd_Lmade "_law_made" = true)
    (k_Lmade : PySem.W.keepIn K (.ref f_Lmade) = true)
    {f_Ltwin : Addr} {od_Ltwin an_Ltwin : Option Addr} {sl_Ltwin : Array (Option Value)} {oc_Ltwin kV_Ltwin dc_Ltwin pm_Ltwin cd_Ltwin ct_Ltwin : Value}
    (a_Ltwin : PySem.W.nsIn K mainGlobals "_law_twin" = some (some (.ref f_Ltwin)))
    (l_Ltwin : K.lookup f_Ltwin = some ⟨oc_Ltwin, od_Ltwin, .func (PySem.W.fnOf "_law_twin" "_law_twin" (defArgs st_Ltwin) (defBody st_Ltwin) (defScope st_Ltwin) .none kV_Ltwin dc_Ltwin pm_Ltwin an_Ltwin cd_Ltwin ct_Ltwin), sl_Ltwin⟩)
    (c_Ltwin : PySem.W.codeIn K cd_Ltwin "_law_twin" = true)
    (k_Ltwin : PySem.W.keepIn K (.ref f_Ltwin) = true)
    {f_Lis_within : Addr} {od_Lis_within an_Lis_within : Option Addr} {sl_Lis_within : Array (Option Value)} {oc_Lis_within kV_Lis_within dc_Lis_within pm_Lis_within cd_Lis_within ct_Lis_within : Value}
    (a_Lis_within : PySem.W.nsIn K mainGlobals "_law_is_within" = some (some (.ref f_Lis_within)))
    (l_Lis_within : K.lookup f_Lis_within = some ⟨oc_Lis_within, od_Lis_within, .func (PySem.W.fnOf "_law_is_within" "_law_is_within" (defArgs st_Lis_within) (defBody st_Lis_within) (defScope st_Lis_within) .none kV_Lis_within dc_Lis_within pm_Lis_within an_Lis_within cd_Lis_within ct_Lis_within), sl_Lis_within⟩)
    (c_Lis_within : PySem.W.codeIn K cd_Lis_within "_law_is_within" = true)
    (k_Lis_within : PySem.W.keepIn K (.ref f_Lis_within) = true)
    {f_Lis_test : Addr} {od_Lis_test an_Lis_test : Option Addr} {sl_Lis_test : Array (Option Value)} {oc_Lis_test kV_Lis_test dc_Lis_test pm_Lis_test cd_Lis_test ct_Lis_test : Value}
    (a_Lis_test : PySem.W.nsIn K mainGlobals "_law_is_test" = some (some (.ref f_Lis_test)))
    (l_Lis_test : K.lookup f_Lis_test = some ⟨oc_Lis_test, od_Lis_test, .func (PySem.W.fnOf "_law_is_test" "_law_is_test" (defArgs st_Lis_test) (defBody st_Lis_test) (defScope st_Lis_test) .none kV_Lis_test dc_Lis_test pm_Lis_test an_Lis_test cd_Lis_test ct_Lis_test), sl_Lis_test⟩)
    (c_Lis_test : PySem.W.codeIn K cd_Lis_test "_law_is_test" = true)
    (k_Lis_test : PySem.W.keepIn K (.ref f_Lis_test) = true)
    {f_Lis_so : Addr} {od_Lis_so an_Lis_so : Option Addr} {sl_Lis_so : Array (Option Value)} {oc_Lis_so kV_Lis_so dc_Lis_so pm_Lis_so cd_Lis_so ct_Lis_so : Value}
    (a_Lis_so : PySem.W.nsIn K mainGlobals "_law_is_so" = some (some (.ref f_Lis_so)))
    (l_Lis_so : K.lookup f_Lis_so = some ⟨oc_Lis_so, od_Lis_so, .func (PySem.W.fnOf "_law_is_so" "_law_is_so" (defArgs st_Lis_so) (defBody st_Lis_so) (defScope st_Lis_so) .none kV_Lis_so dc_Lis_so pm_Lis_so an_Lis_so cd_Lis_so ct_Lis_so), sl_Lis_so⟩)
    (c_Lis_so : PySem.W.codeIn K cd_Lis_so "_law_is_so" = true)
    (k_Lis_so : PySem.W.keepIn K (.ref f_Lis_so) = true)
    {f_is_whole : Addr} {od_is_whole an_is_whole : Option Addr} {sl_is_whole : Array (Option Value)} {oc_is_whole kV_is_whole dc_is_whole pm_is_whole cd_is_whole ct_is_whole : Value}
    (a_is_whole : PySem.W.nsIn K mainGlobals "is_whole" = some (some (.ref f_is_whole)))
    (l_is_whole : K.lookup f_is_whole = some ⟨oc_is_whole, od_is_whole, .func (PySem.W.fnOf "is_whole" "is_whole" (defArgs st_is_whole) (defBody st_is_whole) (defScope st_is_whole) .none kV_is_whole dc_is_whole pm_is_whole an_is_whole cd_is_whole ct_is_whole), sl_is_whole⟩)
    (c_is_whole : PySem.W.codeIn K cd_is_whole "is_whole" = true)
    (k_is_whole : PySem.W.keepIn K (.ref f_is_whole) = true)
    {f_is_word_of : Addr} {od_is_word_of an_is_word_of : Option Addr} {sl_is_word_of : Array (Option Value)} {oc_is_word_of kV_is_word_of dc_is_word_of pm_is_word_of cd_is_word_of ct_is_word_of : Value}
    (a_is_word_of : PySem.W.nsIn K mainGlobals "is_word_of" = some (some (.ref f_is_word_of)))
    (l_is_word_of : K.lookup f_is_word_of = some ⟨oc_is_word_of, od_is_word_of, .func (PySem.W.fnOf "is_word_of" "is_word_of" (defArgs st_is_word_of) (defBody st_is_word_of) (defScope st_is_word_of) .none kV_is_word_of dc_is_word_of pm_is_word_of an_is_word_of cd_is_word_of ct_is_word_of), sl_is_word_of⟩)
    (c_is_word_of : PySem.W.codeIn K cd_is_word_of "is_word_of" = true)
    (k_is_word_of : PySem.W.keepIn K (.ref f_is_word_of) = true)
    {f_is_number : Addr} {od_is_number an_is_number : Option Addr} {sl_is_number : Array (Option Value)} {oc_is_number kV_is_number dc_is_number pm_is_number cd_is_number ct_is_number : Value}
    (a_is_number : PySem.W.nsIn K mainGlobals "is_number" = some (some (.ref f_is_number)))
    (l_is_number : K.lookup f_is_number = some ⟨oc_is_number, od_is_number, .func (PySem.W.fnOf "is_number" "is_number" (defArgs st_is_number) (defBody st_is_number) (defScope st_is_number) .none kV_is_number dc_is_number pm_is_number an_is_number cd_is_number ct_is_number), sl_is_number⟩)
    (c_is_number : PySem.W.codeIn K cd_is_number "is_number" = true)
    (k_is_number : PySem.W.keepIn K (.ref f_is_number) = true)
    {f_is_test : Addr} {od_is_test an_is_test : Option Addr} {sl_is_test : Array (Option Value)} {oc_is_test kV_is_test dc_is_test pm_is_test cd_is_test ct_is_test : Value}
    (a_is_test : PySem.W.nsIn K mainGlobals "is_test" = some (some (.ref f_is_test)))
    (l_is_test : K.lookup f_is_test = some ⟨oc_is_test, od_is_test, .func (PySem.W.fnOf "is_test" "is_test" (defArgs st_is_test) (defBody st_is_test) (defScope st_is_test) .none kV_is_test dc_is_test pm_is_test an_is_test cd_is_test ct_is_test), sl_is_test⟩)
    (c_is_test : PySem.W.codeIn K cd_is_test "is_test" = true)
    (k_is_test : PySem.W.keepIn K (.ref f_is_test) = true)
    {f_is_op : Addr} {od_is_op an_is_op : Option Addr} {sl_is_op : Array (Option Value)} {oc_is_op kV_is_op dc_is_op pm_is_op cd_is_op ct_is_op : Value}
    (a_is_op : PySem.W.nsIn K mainGlobals "is_op" = some (some (.ref f_is_op)))
    (l_is_op : K.lookup f_is_op = some ⟨oc_is_op, od_is_op, .func (PySem.W.fnOf "is_op" "is_op" (defArgs st_is_op) (defBody st_is_op) (defScope st_is_op) .none kV_is_op dc_is_op pm_is_op an_is_op cd_is_op ct_is_op), sl_is_op⟩)
    (c_is_op : PySem.W.codeIn K cd_is_op "is_op" = true)
    (k_is_op : PySem.W.keepIn K (.ref f_is_op) = true)
    {f_is_taker : Addr} {od_is_taker an_is_taker : Option Addr} {sl_is_taker : Array (Option Value)} {oc_is_taker kV_is_taker dc_is_taker pm_is_taker cd_is_taker ct_is_taker : Value}
    (a_is_taker : PySem.W.nsIn K mainGlobals "is_taker" = some (some (.ref f_is_taker)))
    (l_is_taker : K.lookup f_is_taker = some ⟨oc_is_taker, od_is_taker, .func (PySem.W.fnOf "is_taker" "is_taker" (defArgs st_is_taker) (defBody st_is_taker) (defScope st_is_taker) .none kV_is_taker dc_is_taker pm_is_taker an_is_taker cd_is_taker ct_is_taker), sl_is_taker⟩)
    (c_is_taker : PySem.W.codeIn K cd_is_taker "is_taker" = true)
    (k_is_taker : PySem.W.keepIn K (.ref f_is_taker) = true)
    {f_need_taker : Addr} {od_need_taker an_need_taker : Option Addr} {sl_need_taker : Array (Option Value)} {oc_need_taker kV_need_taker dc_need_taker pm_need_taker cd_need_taker ct_need_taker : Value}
    (a_need_taker : PySem.W.nsIn K mainGlobals "need_taker" = some (some (.ref f_need_taker)))
    (l_need_taker : K.lookup f_need_taker = some ⟨oc_need_taker, od_need_taker, .func (PySem.W.fnOf "need_taker" "need_taker" (defArgs st_need_taker) (defBody st_need_taker) (defScope st_need_taker) .none kV_need_taker dc_need_taker pm_need_taker an_need_taker cd_need_taker ct_need_taker), sl_need_taker⟩)
    (c_need_taker : PySem.W.codeIn K cd_need_taker "need_taker" = true)
    (k_need_taker : PySem.W.keepIn K (.ref f_need_taker) = true)
    {f_Lsaid : Addr} {od_Lsaid an_Lsaid : Option Addr} {sl_Lsaid : Array (Option Value)} {oc_Lsaid kV_Lsaid dc_Lsaid pm_Lsaid cd_Lsaid ct_Lsaid : Value}
    (a_Lsaid : PySem.W.nsIn K mainGlobals "_law_said" = some (some (.ref f_Lsaid)))
    (l_Lsaid : K.lookup f_Lsaid = some ⟨oc_Lsaid, od_Lsaid, .func (PySem.W.fnOf "_law_said" "_law_said" (defArgs st_Lsaid) (defBody st_Lsaid) (defScope st_Lsaid) .none kV_Lsaid dc_Lsaid pm_Lsaid an_Lsaid cd_Lsaid ct_Lsaid), sl_Lsaid⟩)
    (c_Lsaid : PySem.W.codeIn K cd_Lsaid "_law_said" = true)
    (k_Lsaid : PySem.W.keepIn K (.ref f_Lsaid) = true)
    {f_law : Addr} {od_law an_law : Option Addr} {sl_law : Array (Option Value)} {oc_law kV_law dc_law pm_law cd_law ct_law : Value}
    (a_law : PySem.W.nsIn K mainGlobals "law" = some (some (.ref f_law)))
    (l_law : K.lookup f_law = some ⟨oc_law, od_law, .func (PySem.W.fnOf "law" "law" (defArgs st_law) (defBody st_law) (defScope st_law) .none kV_law dc_law pm_law an_law cd_law ct_law), sl_law⟩)
    (c_law : PySem.W.codeIn K cd_law "law" = true)
    (k_law : PySem.W.keepIn K (.ref f_law) = true)
    {t_MOST : Tok}
    (a_MOST : PySem.W.nsIn K mainGlobals "MOST" = some (some (.int (1000) t_MOST)))
    {t_TESTS_0 : Tok}
    {t_TESTS_1 : Tok}
    {t_TESTS_2 : Tok}
    {t_TESTS_3 : Tok}
    {q_TESTS : Addr} {n_TESTS : Nat} {dd_TESTS : Option Addr} {ss_TESTS : Array (Option Value)}
    (a_TESTS : PySem.W.nsIn K mainGlobals "TESTS" = some (some (.ref q_TESTS)))
    (l_TESTS : K.lookup q_TESTS = some ⟨.type "tuple", dd_TESTS, .seq #[.str "over" t_TESTS_0, .str "under" t_TESTS_1, .str "even" t_TESTS_2, .str "odd" t_TESTS_3] n_TESTS, ss_TESTS⟩)
    {t_OPS_0 : Tok}
    {t_OPS_1 : Tok}
    {t_OPS_2 : Tok}
    {t_OPS_3 : Tok}
    {q_OPS : Addr} {n_OPS : Nat} {dd_OPS : Option Addr} {ss_OPS : Array (Option Value)}
    (a_OPS : PySem.W.nsIn K mainGlobals "OPS" = some (some (.ref q_OPS)))
    (l_OPS : K.lookup q_OPS = some ⟨.type "tuple", dd_OPS, .seq #[.str "add" t_OPS_0, .str "less" t_OPS_1, .str "least" t_OPS_2, .str "most" t_OPS_3] n_OPS, ss_OPS⟩)
    {t_MOST_TAKEN : Tok}
    (a_MOST_TAKEN : PySem.W.nsIn K mainGlobals "MOST_TAKEN" = some (some (.int (2000) t_MOST_TAKEN)))
    {q_FlowError : Addr}
    (a_FlowError : PySem.W.nsIn K mainGlobals "FlowError" = some (some (.ref q_FlowError)))
    (k_FlowError : PySem.W.keepIn K (.ref q_FlowError) = true)
    (b_FlowError : PySem.W.subIn K (.ref q_FlowError) (.type "BaseException") = some true)
    (t_FlowError : PySem.W.typeIn K (.ref q_FlowError) = some (.type "type"))
    (i_FlowError : PySem.W.isClsIn K q_FlowError = true)
    {q_BadText : Addr}
    (a_BadText : PySem.W.nsIn K mainGlobals "BadText" = some (some (.ref q_BadText)))
    (k_BadText : PySem.W.keepIn K (.ref q_BadText) = true)
    (b_BadText : PySem.W.subIn K (.ref q_BadText) (.type "BaseException") = some true)
    (t_BadText : PySem.W.typeIn K (.ref q_BadText) = some (.type "type"))
    (i_BadText : PySem.W.isClsIn K q_BadText = true)
    {q_Unsound : Addr}
    (a_Unsound : PySem.W.nsIn K mainGlobals "Unsound" = some (some (.ref q_Unsound)))
    (k_Unsound : PySem.W.keepIn K (.ref q_Unsound) = true)
    (b_Unsound : PySem.W.subIn K (.ref q_Unsound) (.type "BaseException") = some true)
    (t_Unsound : PySem.W.typeIn K (.ref q_Unsound) = some (.type "type"))
    (i_Unsound : PySem.W.isClsIn K q_Unsound = true)
    {q_BadNet : Addr}
    (a_BadNet : PySem.W.nsIn K mainGlobals "BadNet" = some (some (.ref q_BadNet)))
    (k_BadNet : PySem.W.keepIn K (.ref q_BadNet) = true)
    (b_BadNet : PySem.W.subIn K (.ref q_BadNet) (.type "BaseException") = some true)
    (t_BadNet : PySem.W.typeIn K (.ref q_BadNet) = some (.type "type"))
    (i_BadNet : PySem.W.isClsIn K q_BadNet = true)
    {q_BadTaker : Addr}
    (a_BadTaker : PySem.W.nsIn K mainGlobals "BadTaker" = some (some (.ref q_BadTaker)))
    (k_BadTaker : PySem.W.keepIn K (.ref q_BadTaker) = true)
    (b_BadTaker : PySem.W.subIn K (.ref q_BadTaker) (.type "BaseException") = some true)
    (t_BadTaker : PySem.W.typeIn K (.ref q_BadTaker) = some (.type "type"))
    (i_BadTaker : PySem.W.isClsIn K q_BadTaker = true)
    {q_BadLimit : Addr}
    (a_BadLimit : PySem.W.nsIn K mainGlobals "BadLimit" = some (some (.ref q_BadLimit)))
    (k_BadLimit : PySem.W.keepIn K (.ref q_BadLimit) = true)
    (b_BadLimit : PySem.W.subIn K (.ref q_BadLimit) (.type "BaseException") = some true)
    (t_BadLimit : PySem.W.typeIn K (.ref q_BadLimit) = some (.type "type"))
    (i_BadLimit : PySem.W.isClsIn K q_BadLimit = true)
    {q_BadAnswer : Addr}
    (a_BadAnswer : PySem.W.nsIn K mainGlobals "BadAnswer" = some (some (.ref q_BadAnswer)))
    (k_BadAnswer : PySem.W.keepIn K (.ref q_BadAnswer) = true)
    (b_BadAnswer : PySem.W.subIn K (.ref q_BadAnswer) (.type "BaseException") = some true)
    (t_BadAnswer : PySem.W.typeIn K (.ref q_BadAnswer) = some (.type "type"))
    (i_BadAnswer : PySem.W.isClsIn K q_BadAnswer = true)
    {q_Over : Addr}
    (a_Over : PySem.W.nsIn K mainGlobals "Over" = some (some (.ref q_Over)))
    (k_Over : PySem.W.keepIn K (.ref q_Over) = true)
    (b_Over : PySem.W.subIn K (.ref q_Over) (.type "BaseException") = some true)
    (t_Over : PySem.W.typeIn K (.ref q_Over) = some (.type "type"))
    (i_Over : PySem.W.isClsIn K q_Over = true)
    {q_BadRoom : Addr}
    (a_BadRoom : PySem.W.nsIn K mainGlobals "BadRoom" = some (some (.ref q_BadRoom)))
    (k_BadRoom : PySem.W.keepIn K (.ref q_BadRoom) = true)
    (b_BadRoom : PySem.W.subIn K (.ref q_BadRoom) (.type "BaseException") = some true)
    (t_BadRoom : PySem.W.typeIn K (.ref q_BadRoom) = some (.type "type"))
    (i_BadRoom : PySem.W.isClsIn K q_BadRoom = true)
    {q_BadPlace : Addr}
    (a_BadPlace : PySem.W.nsIn K mainGlobals "BadPlace" = some (some (.ref q_BadPlace)))
    (k_BadPlace : PySem.W.keepIn K (.ref q_BadPlace) = true)
    (b_BadPlace : PySem.W.subIn K (.ref q_BadPlace) (.type "BaseException") = some true)
    (t_BadPlace : PySem.W.typeIn K (.ref q_BadPlace) = some (.type "type"))
    (i_BadPlace : PySem.W.isClsIn K q_BadPlace = true)
    {q_BadAsked : Addr}
    (a_BadAsked : PySem.W.nsIn K mainGlobals "BadAsked" = some (some (.ref q_BadAsked)))
    (k_BadAsked : PySem.W.keepIn K (.ref q_BadAsked) = true)
    (b_BadAsked : PySem.W.subIn K (.ref q_BadAsked) (.type "BaseException") = some true)
    (t_BadAsked : PySem.W.typeIn K (.ref q_BadAsked) = some (.type "type"))
    (i_BadAsked : PySem.W.isClsIn K q_BadAsked = true)
    {q_BadStory : Addr}
    (a_BadStory : PySem.W.nsIn K mainGlobals "BadStory" = some (some (.ref q_BadStory)))
    (k_BadStory : PySem.W.keepIn K (.ref q_BadStory) = true)
    (b_BadStory : PySem.W.subIn K (.ref q_BadStory) (.type "BaseException") = some true)
    (t_BadStory : PySem.W.typeIn K (.ref q_BadStory) = some (.type "type"))
    (i_BadStory : PySem.W.isClsIn K q_BadStory = true)
    {q_BadLoop : Addr}
    (a_BadLoop : PySem.W.nsIn K mainGlobals "BadLoop" = some (some (.ref q_BadLoop)))
    (k_BadLoop : PySem.W.keepIn K (.ref q_BadLoop) = true)
    (b_BadLoop : PySem.W.subIn K (.ref q_BadLoop) (.type "BaseException") = some true)
    (t_BadLoop : PySem.W.typeIn K (.ref q_BadLoop) = some (.type "type"))
    (i_BadLoop : PySem.W.isClsIn K q_BadLoop = true)
    {q_TooMany : Addr}
    (a_TooMany : PySem.W.nsIn K mainGlobals "TooMany" = some (some (.ref q_TooMany)))
    (k_TooMany : PySem.W.keepIn K (.ref q_TooMany) = true)
    (b_TooMany : PySem.W.subIn K (.ref q_TooMany) (.type "BaseException") = some true)
    (t_TooMany : PySem.W.typeIn K (.ref q_TooMany) = some (.type "type"))
    (i_TooMany : PySem.W.isClsIn K q_TooMany = true)
    {q_BadLine : Addr}
    (a_BadLine : PySem.W.nsIn K mainGlobals "BadLine" = some (some (.ref q_BadLine)))
    (k_BadLine : PySem.W.keepIn K (.ref q_BadLine) = true)
    (b_BadLine : PySem.W.subIn K (.ref q_BadLine) (.type "BaseException") = some true)
    (t_BadLine : PySem.W.typeIn K (.ref q_BadLine) = some (.type "type"))
    (i_BadLine : PySem.W.isClsIn K q_BadLine = true)
    (hga_BadTaker : PySem.W.findIn K (.ref q_BadTaker) "__getattribute__" = some (some (.builtin "BaseException.__getattribute__")))
    (hgt_BadTaker : PySem.W.findIn K (.ref q_BadTaker) "__getattr__" = some none)
    (hd_BadTaker : PySem.W.hasDictIn K q_BadTaker = true)
    (ha_BadTaker : PySem.W.findIn K (.ref q_BadTaker) "__class__" = some (some (.builtin "object.__class__")))
    (hm_BadTaker : PySem.W.mroIn K q_BadTaker (.type "object") = some true)
    (s_BadTaker_BadTaker : PySem.W.subIn K (.ref q_BadTaker) (.ref q_BadTaker) = some true)
    (s_BadTaker_FlowError : PySem.W.subIn K (.ref q_BadTaker) (.ref q_FlowError) = some true)
    (s_BadTaker_BadAnswer : PySem.W.subIn K (.ref q_BadTaker) (.ref q_BadAnswer) = some false)
    (s_BadTaker_BadAsked : PySem.W.subIn K (.ref q_BadTaker) (.ref q_BadAsked) = some false)
    (s_BadTaker_BadLimit : PySem.W.subIn K (.ref q_BadTaker) (.ref q_BadLimit) = some false)
    (s_BadTaker_BadLine : PySem.W.subIn K (.ref q_BadTaker) (.ref q_BadLine) = some false)
    (s_BadTaker_BadLoop : PySem.W.subIn K (.ref q_BadTaker) (.ref q_BadLoop) = some false)
    (s_BadTaker_BadNet : PySem.W.subIn K (.ref q_BadTaker) (.ref q_BadNet) = some false)
    (s_BadTaker_BadPlace : PySem.W.subIn K (.ref q_BadTaker) (.ref q_BadPlace) = some false)
    (s_BadTaker_BadRoom : PySem.W.subIn K (.ref q_BadTaker) (.ref q_BadRoom) = some false)
    (s_BadTaker_BadStory : PySem.W.subIn K (.ref q_BadTaker) (.ref q_BadStory) = some false)
    (s_BadTaker_BadText : PySem.W.subIn K (.ref q_BadTaker) (.ref q_BadText) = some false)
    (s_BadTaker_Over : PySem.W.subIn K (.ref q_BadTaker) (.ref q_Over) = some false)
    (s_BadTaker_TooMany : PySem.W.subIn K (.ref q_BadTaker) (.ref q_TooMany) = some false)
    (s_BadTaker_Unsound : PySem.W.subIn K (.ref q_BadTaker) (.ref q_Unsound) = some false)
    (x_BadTaker : PySem.W.excIn K q_BadTaker veMro "ValueError.__new__" = true)
    (hn_ : PySem.W.specialIn K (.builtin "object.__class__") "__get__" = some (some (.builtin "getset_descriptor.__get__")))
    (htk_ : PySem.W.takesIn K (.builtin "object.__class__") = some true)
    (z_len : PySem.W.nsIn K mainGlobals "len" = some none)
    (z_abs : PySem.W.nsIn K mainGlobals "abs" = some none)
    (z_max : PySem.W.nsIn K mainGlobals "max" = some none)
    (z_min : PySem.W.nsIn K mainGlobals "min" = some none)
    (z_int : PySem.W.nsIn K mainGlobals "int" = some none)
    (z_str : PySem.W.nsIn K mainGlobals "str" = some none)
    (z_tuple : PySem.W.nsIn K mainGlobals "tuple" = some none)
    (z_list : PySem.W.nsIn K mainGlobals "list" = some none)
    (z_all : PySem.W.nsIn K mainGlobals "all" = some none)
    (z_any : PySem.W.nsIn K mainGlobals "any" = some none)
    (z_isinstance : PySem.W.nsIn K mainGlobals "isinstance" = some none)
    (z_range : PySem.W.nsIn K mainGlobals "range" = some none)
    (z_enumerate : PySem.W.nsIn K mainGlobals "enumerate" = some none)
    (z_zip : PySem.W.nsIn K mainGlobals "zip" = some none)
    (z_bool : PySem.W.nsIn K mainGlobals "bool" = some none)
    (z_dict : PySem.W.nsIn K mainGlobals "dict" = some none)
    (z_repr : PySem.W.nsIn K mainGlobals "repr" = some none)
    (z_sum : PySem.W.nsIn K mainGlobals "sum" = some none)
    (z_sorted : PySem.W.nsIn K mainGlobals "sorted" = some none)
    (z_ValueError : PySem.W.nsIn K mainGlobals "ValueError" = some none) :
    ∃ fd : FuncData, (∀ (s : Shared) (v : Value), BindsTo s fd ⟨[v], []⟩ [("_law_script", v)]) ∧ ∀ base : Heap, K.In base → base.Ns mainGlobals mg → FnG l.prog w K mg base 7 fa fd ["_law_script"] (lowSp K mg 1 sp_law) := by
  have e := hfa.symm.trans (PySem.W.mg_of X G a_law)
  cases e
  have hz : ∀ x ∈ bNames, mg x = none := by
    intro x hx
    simp only [bNames, List.mem_cons, List.not_mem_nil, or_false] at hx
    rcases hx with rfl | rfl | rfl | rfl | rfl | rfl | rfl | rfl | rfl | rfl | rfl | rfl | rfl | rfl | rfl | rfl | rfl | rfl | rfl | rfl
    · exact PySem.W.mg_none_of X G z_len
    · exact PySem.W.mg_none_of X G z_abs
    · exact PySem.W.mg_none_of X G z_max
    · exact PySem.W.mg_none_of X G z_min
    · exact PySem.W.mg_none_of X G z_int
    · exact PySem.W.mg_none_of X G z_str
    · exact PySem.W.mg_none_of X G z_tuple
    · exact PySem.W.mg_none_of X G z_list
    · exact PySem.W.mg_none_of X G z_all
    · exact PySem.W.mg_none_of X G z_any
    · exact PySem.W.mg_none_of X G z_isinstance
    · exact PySem.W.mg_none_of X G z_range
    · exact PySem.W.mg_none_of X G z_enumerate
    · exact PySem.W.mg_none_of X G z_zip
    · exact PySem.W.mg_none_of X G z_bool
    · exact PySem.W.mg_none_of X G z_dict
    · exact PySem.W.mg_none_of X G z_repr
    · exact PySem.W.mg_none_of X G z_sum
    · exact PySem.W.mg_none_of X G z_sorted
    · exact PySem.W.mg_none_of X G z_ValueError
  refine ⟨PySem.W.fnOf "law" "law" (defArgs st_law) (defBody st_law) (defScope st_law) .none kV_law dc_law pm_law an_law cd_law ct_law, fun s v => .of_eq rfl, fun base _ _ => ?_⟩
  have U_FlowError : ClsA K mg ("FlowError", ci_FlowError) := ⟨q_FlowError, PySem.W.mg_of X G a_FlowError, fun h => by rcases h with h | h <;> exact absurd rfl h, noneA, base_own i_FlowError t_FlowError, noneA⟩
  have X_FlowError : ∀ k, XkA l.prog w K mg base k "FlowError" ci_FlowError.xk := fun k => xkNo_own (PySem.W.mg_of X G a_FlowError) k_FlowError b_FlowError t_FlowError
  have U_BadText : ClsA K mg ("BadText", ci_BadText) := ⟨q_BadText, PySem.W.mg_of X G a_BadText, fun h => by rcases h with h | h <;> exact absurd rfl h, noneA, base_own i_BadText t_BadText, noneA⟩
  have X_BadText : ∀ k, XkA l.prog w K mg base k "BadText" ci_BadText.xk := fun k => xkNo_own (PySem.W.mg_of X G a_BadText) k_BadText b_BadText t_BadText
  have U_Unsound : ClsA K mg ("Unsound", ci_Unsound) := ⟨q_Unsound, PySem.W.mg_of X G a_Unsound, fun h => by rcases h with h | h <;> exact absurd rfl h, noneA, base_own i_Unsound t_Unsound, noneA⟩
  have X_Unsound : ∀ k, XkA l.prog w K mg base k "Unsound" ci_Unsound.xk := fun k => xkNo_own (PySem.W.mg_of X G a_Unsound) k_Unsound b_Unsound t_Unsound
  have U_BadNet : ClsA K mg ("BadNet", ci_BadNet) := ⟨q_BadNet, PySem.W.mg_of X G a_BadNet, fun h => by rcases h with h | h <;> exact absurd rfl h, noneA, base_own i_BadNet t_BadNet, noneA⟩
  have X_BadNet : ∀ k, XkA l.prog w K mg base k "BadNet" ci_BadNet.xk := fun k => xkNo_own (PySem.W.mg_of X G a_BadNet) k_BadNet b_BadNet t_BadNet
  have U_BadTaker : ClsA K mg ("BadTaker", ci_BadTaker) := ⟨q_BadTaker, PySem.W.mg_of X G a_BadTaker, fun _ => ⟨hga_BadTaker, hgt_BadTaker, b_BadTaker, hd_BadTaker, ha_BadTaker, hn_, htk_, hm_BadTaker⟩, (consA (rel_own (PySem.W.mg_of X G a_FlowError) b_FlowError i_FlowError t_FlowError s_BadTaker_BadTaker s_BadTaker_FlowError) (consA (rel_own (PySem.W.mg_of X G a_BadAnswer) b_BadAnswer i_BadAnswer t_BadAnswer s_BadTaker_BadTaker s_BadTaker_BadAnswer) (consA (rel_own (PySem.W.mg_of X G a_BadAsked) b_BadAsked i_BadAsked t_BadAsked s_BadTaker_BadTaker s_BadTaker_BadAsked) (consA (rel_own (PySem.W.mg_of X G a_BadLimit) b_BadLimit i_BadLimit t_BadLimit s_BadTaker_BadTaker s_BadTaker_BadLimit) (consA (rel_own (PySem.W.mg_of X G a_BadLine) b_BadLine i_BadLine t_BadLine s_BadTaker_BadTaker s_BadTaker_BadLine) (consA (rel_own (PySem.W.mg_of X G a_BadLoop) b_BadLoop i_BadLoop t_BadLoop s_BadTaker_BadTaker s_BadTaker_BadLoop) (consA (rel_own (PySem.W.mg_of X G a_BadNet) b_BadNet i_BadNet t_BadNet s_BadTaker_BadTaker s_BadTaker_BadNet) (consA (rel_own (PySem.W.mg_of X G a_BadPlace) b_BadPlace i_BadPlace t_BadPlace s_BadTaker_BadTaker s_BadTaker_BadPlace) (consA (rel_own (PySem.W.mg_of X G a_BadRoom) b_BadRoom i_BadRoom t_BadRoom s_BadTaker_BadTaker s_BadTaker_BadRoom) (consA (rel_own (PySem.W.mg_of X G a_BadStory) b_BadStory i_BadStory t_BadStory s_BadTaker_BadTaker s_BadTaker_BadStory) (consA (rel_own (PySem.W.mg_of X G a_BadText) b_BadText i_BadText t_BadText s_BadTaker_BadTaker s_BadTaker_BadText) (consA (rel_own (PySem.W.mg_of X G a_Over) b_Over i_Over t_Over s_BadTaker_BadTaker s_BadTaker_Over) (consA (rel_own (PySem.W.mg_of X G a_TooMany) b_TooMany i_TooMany t_TooMany s_BadTaker_BadTaker s_BadTaker_TooMany) (consA (rel_own (PySem.W.mg_of X G a_Unsound) b_Unsound i_Unsound t_Unsound s_BadTaker_BadTaker s_BadTaker_Unsound) (consA (rel_own (PySem.W.mg_of X G a_BadTaker) b_BadTaker i_BadTaker t_BadTaker s_BadTaker_BadTaker s_BadTaker_BadTaker) noneA))))))))))))))), base_own i_BadTaker t_BadTaker, noneA⟩
  have X_BadTaker : ∀ k, XkA l.prog w K mg base k "BadTaker" ci_BadTaker.xk := fun k => xkA_own (PySem.W.mg_of X G a_BadTaker) k_BadTaker b_BadTaker t_BadTaker x_BadTaker
  have U_BadLimit : ClsA K mg ("BadLimit", ci_BadLimit) := ⟨q_BadLimit, PySem.W.mg_of X G a_BadLimit, fun h => by rcases h with h | h <;> exact absurd rfl h, noneA, base_own i_BadLimit t_BadLimit, noneA⟩
  have X_BadLimit : ∀ k, XkA l.prog w K mg base k "BadLimit" ci_BadLimit.xk := fun k => xkNo_own (PySem.W.mg_of X G a_BadLimit) k_BadLimit b_BadLimit t_BadLimit
  have U_BadAnswer : ClsA K mg ("BadAnswer", ci_BadAnswer) := ⟨q_BadAnswer, PySem.W.mg_of X G a_BadAnswer, fun h => by rcases h with h | h <;> exact absurd rfl h, noneA, base_own i_BadAnswer t_BadAnswer, noneA⟩
  have X_BadAnswer : ∀ k, XkA l.prog w K mg base k "BadAnswer" ci_BadAnswer.xk := fun k => xkNo_own (PySem.W.mg_of X G a_BadAnswer) k_BadAnswer b_BadAnswer t_BadAnswer
  have U_Over : ClsA K mg ("Over", ci_Over) := ⟨q_Over, PySem.W.mg_of X G a_Over, fun h => by rcases h with h | h <;> exact absurd rfl h, noneA, base_own i_Over t_Over, noneA⟩
  have X_Over : ∀ k, XkA l.prog w K mg base k "Over" ci_Over.xk := fun k => xkNo_own (PySem.W.mg_of X G a_Over) k_Over b_Over t_Over
  have U_BadRoom : ClsA K mg ("BadRoom", ci_BadRoom) := ⟨q_BadRoom, PySem.W.mg_of X G a_BadRoom, fun h => by rcases h with h | h <;> exact absurd rfl h, noneA, base_own i_BadRoom t_BadRoom, noneA⟩
  have X_BadRoom : ∀ k, XkA l.prog w K mg base k "BadRoom" ci_BadRoom.xk := fun k => xkNo_own (PySem.W.mg_of X G a_BadRoom) k_BadRoom b_BadRoom t_BadRoom
  have U_BadPlace : ClsA K mg ("BadPlace", ci_BadPlace) := ⟨q_BadPlace, PySem.W.mg_of X G a_BadPlace, fun h => by rcases h with h | h <;> exact absurd rfl h, noneA, base_own i_BadPlace t_BadPlace, noneA⟩
  have X_BadPlace : ∀ k, XkA l.prog w K mg base k "BadPlace" ci_BadPlace.xk := fun k => xkNo_own (PySem.W.mg_of X G a_BadPlace) k_BadPlace b_BadPlace t_BadPlace
  have U_BadAsked : ClsA K mg ("BadAsked", ci_BadAsked) := ⟨q_BadAsked, PySem.W.mg_of X G a_BadAsked, fun h => by rcases h with h | h <;> exact absurd rfl h, noneA, base_own i_BadAsked t_BadAsked, noneA⟩
  have X_BadAsked : ∀ k, XkA l.prog w K mg base k "BadAsked" ci_BadAsked.xk := fun k => xkNo_own (PySem.W.mg_of X G a_BadAsked) k_BadAsked b_BadAsked t_BadAsked
  have U_BadStory : ClsA K mg ("BadStory", ci_BadStory) := ⟨q_BadStory, PySem.W.mg_of X G a_BadStory, fun h => by rcases h with h | h <;> exact absurd rfl h, noneA, base_own i_BadStory t_BadStory, noneA⟩
  have X_BadStory : ∀ k, XkA l.prog w K mg base k "BadStory" ci_BadStory.xk := fun k => xkNo_own (PySem.W.mg_of X G a_BadStory) k_BadStory b_BadStory t_BadStory
  have U_BadLoop : ClsA K mg ("BadLoop", ci_BadLoop) := ⟨q_BadLoop, PySem.W.mg_of X G a_BadLoop, fun h => by rcases h with h | h <;> exact absurd rfl h, noneA, base_own i_BadLoop t_BadLoop, noneA⟩
  have X_BadLoop : ∀ k, XkA l.prog w K mg base k "BadLoop" ci_BadLoop.xk := fun k => xkNo_own (PySem.W.mg_of X G a_BadLoop) k_BadLoop b_BadLoop t_BadLoop
  have U_TooMany : ClsA K mg ("TooMany", ci_TooMany) := ⟨q_TooMany, PySem.W.mg_of X G a_TooMany, fun h => by rcases h with h | h <;> exact absurd rfl h, noneA, base_own i_TooMany t_TooMany, noneA⟩
  have X_TooMany : ∀ k, XkA l.prog w K mg base k "TooMany" ci_TooMany.xk := fun k => xkNo_own (PySem.W.mg_of X G a_TooMany) k_TooMany b_TooMany t_TooMany
  have U_BadLine : ClsA K mg ("BadLine", ci_BadLine) := ⟨q_BadLine, PySem.W.mg_of X G a_BadLine, fun h => by rcases h with h | h <;> exact absurd rfl h, noneA, base_own i_BadLine t_BadLine, noneA⟩
  have X_BadLine : ∀ k, XkA l.prog w K mg base k "BadLine" ci_BadLine.xk := fun k => xkNo_own (PySem.W.mg_of X G a_BadLine) k_BadLine b_BadLine t_BadLine
  have HK : ∀ p ∈ KS, ClsA K mg p := (consA (U_FlowError) (consA (U_BadText) (consA (U_Unsound) (consA (U_BadNet) (consA (U_BadTaker) (consA (U_BadLimit) (consA (U_BadAnswer) (consA (U_Over) (consA (U_BadRoom) (consA (U_BadPlace) (consA (U_BadAsked) (consA (U_BadStory) (consA (U_BadLoop) (consA (U_TooMany) (consA (U_BadLine) noneA)))))))))))))))
  have HX : ∀ k, 2 ≤ k → ∀ p ∈ KS, XkA l.prog w K mg base k p.1 p.2.xk := fun k hk => (consA (X_FlowError k) (consA (X_BadText k) (consA (X_Unsound k) (consA (X_BadNet k) (consA (X_BadTaker k) (consA (X_BadLimit k) (consA (X_BadAnswer k) (consA (X_Over k) (consA (X_BadRoom k) (consA (X_BadPlace k) (consA (X_BadAsked k) (consA (X_BadStory k) (consA (X_BadLoop k) (consA (X_TooMany k) (consA (X_BadLine k) noneA)))))))))))))))
  have C_MOST : ConA K mg "MOST" (.int (1000)) := ⟨_, .int (1000), PySem.W.mg_of X G a_MOST, ⟨_, rfl⟩, fun _ => .int _⟩
  have C_TESTS : ConA K mg "TESTS" (.tup [(.str "over"), (.str "under"), (.str "even"), (.str "odd")]) := ⟨_, .ref q_TESTS, PySem.W.mg_of X G a_TESTS, rfl, fun _ => .tup (.inr ⟨_, _, _, l_TESTS, rfl, rfl, (by show (4 : Nat) ≤ sizeLine; decide +kernel), (.cons TL.relS (.cons TL.relS (.cons TL.relS (.cons TL.relS .nil))))⟩) (.cons (.str _) (.cons (.str _) (.cons (.str _) (.cons (.str _) .nil))))⟩
  have C_OPS : ConA K mg "OPS" (.tup [(.str "add"), (.str "less"), (.str "least"), (.str "most")]) := ⟨_, .ref q_OPS, PySem.W.mg_of X G a_OPS, rfl, fun _ => .tup (.inr ⟨_, _, _, l_OPS, rfl, rfl, (by show (4 : Nat) ≤ sizeLine; decide +kernel), (.cons TL.relS (.cons TL.relS (.cons TL.relS (.cons TL.relS .nil))))⟩) (.cons (.str _) (.cons (.str _) (.cons (.str _) (.cons (.str _) .nil))))⟩
  have C_MOST_TAKEN : ConA K mg "MOST_TAKEN" (.int (2000)) := ⟨_, .int (2000), PySem.W.mg_of X G a_MOST_TAKEN, ⟨_, rfl⟩, fun _ => .int _⟩
  have V_Lbegin : Env1 l.prog w K mg base 0 G_Lbegin := env_of hz (fun p hp => by simp at hp) (fun p hp => by simp at hp) noneA noneA
  have O_Lbegin := ok_Lbegin (fun_mk (st := st_Lbegin) l_Lbegin c_Lbegin k_Lbegin) (PySem.W.mg_of X G a_Lbegin) V_Lbegin
  have V_Lmixed : Env1 l.prog w K mg base 0 G_Lmixed := env_of hz (fun p hp => by simp at hp) (fun p hp => by simp at hp) noneA noneA
  have O_Lmixed := ok_Lmixed (fun_mk (st := st_Lmixed) l_Lmixed c_Lmixed k_Lmixed) (PySem.W.mg_of X G a_Lmixed) V_Lmixed
  have V_Lnext : Env1 l.prog w K mg base 1 G_Lnext := env_of hz (fun p hp => by
      simp only [List.mem_cons, List.not_mem_nil, or_false] at hp
      rcases hp with rfl
      · exact O_Lmixed.up (by decide)) (fun p hp => by simp at hp) noneA noneA
  have O_Lnext := ok_Lnext (fun_mk (st := st_Lnext) l_Lnext c_Lnext k_Lnext) (PySem.W.mg_of X G a_Lnext) V_Lnext
  have V_Lodd : Env1 l.prog w K mg base 2 G_Lodd := env_of hz (fun p hp => by
      simp only [List.mem_cons, List.not_mem_nil, or_false] at hp
      rcases hp with rfl
      · exact O_Lnext.up (by decide)) (fun p hp => by simp at hp) noneA noneA
  have O_Lodd := ok_Lodd (fun_mk (st := st_Lodd) l_Lodd c_Lodd k_Lodd) (PySem.W.mg_of X G a_Lodd) V_Lodd
  have V_Lmade : Env1 l.prog w K mg base 3 G_Lmade := env_of hz (fun p hp => by
      simp only [List.mem_cons, List.not_mem_nil, or_false] at hp
      rcases hp with rfl | rfl
      · exact O_Lnext.up (by decide)
      · exact O_Lodd.up (by decide)) (fun p hp => by simp at hp) noneA noneA
  have O_Lmade := ok_Lmade (fun_mk (st := st_Lmade) l_Lmade c_Lmade k_Lmade) (PySem.W.mg_of X G a_Lmade) V_Lmade
  have O_Ltwin : ∀ m, FnA l.prog w K mg base (1 + m) "_law_twin" (spr_Ltwin m) := rec_all (FnA.bot (fun_mk (st := st_Ltwin) l_Ltwin c_Ltwin k_Ltwin) (PySem.W.mg_of X G a_Ltwin) (ps := ["_law_thing"]) (by first | exact fun vs H E Q h => bot_Ltwin h) (fun _ _ _ _ _ _ us hl => match us, hl with | [_], _ => rfl)) fun m Om => ok_Ltwin (fun_mk (st := st_Ltwin) l_Ltwin c_Ltwin k_Ltwin) (PySem.W.mg_of X G a_Ltwin) (env_of hz (fun p hp => by
      simp only [List.mem_cons, List.not_mem_nil, or_false] at hp
      rcases hp with rfl
      · exact Om) (fun p hp => by simp at hp) noneA noneA)
  have O_Ltwin := O_Ltwin 3
  have V_Lis_within : Env1 l.prog w K mg base 0 G_Lis_within := env_of hz (fun p hp => by simp at hp) (fun p hp => by simp at hp) noneA noneA
  have O_Lis_within := ok_Lis_within (fun_mk (st := st_Lis_within) l_Lis_within c_Lis_within k_Lis_within) (PySem.W.mg_of X G a_Lis_within) V_Lis_within
  have V_Lis_test : Env1 l.prog w K mg base 1 G_Lis_test := env_of hz (fun p hp => by
      simp only [List.mem_cons, List.not_mem_nil, or_false] at hp
      rcases hp with rfl
      · exact O_Lis_within.up (by decide)) (fun p hp => by simp at hp) noneA noneA
  have O_Lis_test := ok_Lis_test (fun_mk (st := st_Lis_test) l_Lis_test c_Lis_test k_Lis_test) (PySem.W.mg_of X G a_Lis_test) V_Lis_test
  have V_Lis_so : Env1 l.prog w K mg base 2 G_Lis_so := env_of hz (fun p hp => by
      simp only [List.mem_cons, List.not_mem_nil, or_false] at hp
      rcases hp with rfl | rfl
      · exact O_Lis_within.up (by decide)
      · exact O_Lis_test.up (by decide)) (fun p hp => by simp at hp) noneA noneA
  have O_Lis_so := ok_Lis_so (fun_mk (st := st_Lis_so) l_Lis_so c_Lis_so k_Lis_so) (PySem.W.mg_of X G a_Lis_so) V_Lis_so
  have V_is_whole : Env1 l.prog w K mg base 0 G_is_whole := env_of hz (fun p hp => by simp at hp) (fun p hp => by simp at hp) noneA noneA
  have O_is_whole := ok_is_whole (fun_mk (st := st_is_whole) l_is_whole c_is_whole k_is_whole) (PySem.W.mg_of X G a_is_whole) V_is_whole
  have V_is_word_of : Env1 l.prog w K mg base 0 G_is_word_of := env_of hz (fun p hp => by simp at hp) (fun p hp => by simp at hp) noneA noneA
  have O_is_word_of := ok_is_word_of (fun_mk (st := st_is_word_of) l_is_word_of c_is_word_of k_is_word_of) (PySem.W.mg_of X G a_is_word_of) V_is_word_of
  have V_is_number : Env1 l.prog w K mg base 1 G_is_number := env_of hz (fun p hp => by
      simp only [List.mem_cons, List.not_mem_nil, or_false] at hp
      rcases hp with rfl
      · exact O_is_whole.up (by decide)) (fun p hp => by
      simp only [List.mem_cons, List.not_mem_nil, or_false] at hp
      rcases hp with rfl
      · exact C_MOST) noneA noneA
  have O_is_number := ok_is_number (fun_mk (st := st_is_number) l_is_number c_is_number k_is_number) (PySem.W.mg_of X G a_is_number) V_is_number
  have V_is_test : Env1 l.prog w K mg base 2 G_is_test := env_of hz (fun p hp => by
      simp only [List.mem_cons, List.not_mem_nil, or_false] at hp
      rcases hp with rfl | rfl
      · exact O_is_word_of.up (by decide)
      · exact O_is_number.up (by decide)) (fun p hp => by
      simp only [List.mem_cons, List.not_mem_nil, or_false] at hp
      rcases hp with rfl
      · exact C_TESTS) noneA noneA
  have O_is_test := ok_is_test (fun_mk (st := st_is_test) l_is_test c_is_test k_is_test) (PySem.W.mg_of X G a_is_test) V_is_test
  have V_is_op : Env1 l.prog w K mg base 1 G_is_op := env_of hz (fun p hp => by
      simp only [List.mem_cons, List.not_mem_nil, or_false] at hp
      rcases hp with rfl
      · exact O_is_word_of.up (by decide)) (fun p hp => by
      simp only [List.mem_cons, List.not_mem_nil, or_false] at hp
      rcases hp with rfl
      · exact C_OPS) noneA noneA
  have O_is_op := ok_is_op (fun_mk (st := st_is_op) l_is_op c_is_op k_is_op) (PySem.W.mg_of X G a_is_op) V_is_op
  have V_is_taker : Env1 l.prog w K mg base 3 G_is_taker := env_of hz (fun p hp => by
      simp only [List.mem_cons, List.not_mem_nil, or_false] at hp
      rcases hp with rfl | rfl | rfl | rfl
      · exact O_is_whole.up (by decide)
      · exact O_is_test.up (by decide)
      · exact O_is_op.up (by decide)
      · exact O_is_number.up (by decide)) (fun p hp => by
      simp only [List.mem_cons, List.not_mem_nil, or_false] at hp
      rcases hp with rfl
      · exact C_MOST_TAKEN) noneA noneA
  have O_is_taker := ok_is_taker (fun_mk (st := st_is_taker) l_is_taker c_is_taker k_is_taker) (PySem.W.mg_of X G a_is_taker) V_is_taker
  have V_need_taker : Env1 l.prog w K mg base 4 G_need_taker := env_of hz (fun p hp => by
      simp only [List.mem_cons, List.not_mem_nil, or_false] at hp
      rcases hp with rfl
      · exact O_is_taker.up (by decide)) (fun p hp => by simp at hp) (HK) (HX _ (by decide))
  have O_need_taker := ok_need_taker (fun_mk (st := st_need_taker) l_need_taker c_need_taker k_need_taker) (PySem.W.mg_of X G a_need_taker) V_need_taker
  have V_Lsaid : Env1 l.prog w K mg base 5 G_Lsaid := env_of hz (fun p hp => by
      simp only [List.mem_cons, List.not_mem_nil, or_false] at hp
      rcases hp with rfl
      · exact O_need_taker.up (by decide)) (fun p hp => by simp at hp) (HK) (HX _ (by decide))
  have O_Lsaid := ok_Lsaid (fun_mk (st := st_Lsaid) l_Lsaid c_Lsaid k_Lsaid) (PySem.W.mg_of X G a_Lsaid) V_Lsaid
  have V_law : Env1 l.prog w K mg base 6 G_law := env_of hz (fun p hp => by
      simp only [List.mem_cons, List.not_mem_nil, or_false] at hp
      rcases hp with rfl | rfl | rfl | rfl | rfl | rfl | rfl
      · exact O_Lbegin.up (by decide)
      · exact O_Lmade.up (by decide)
      · exact O_Ltwin.up (by decide)
      · exact O_Lodd.up (by decide)
      · exact O_Lis_so.up (by decide)
      · exact O_is_taker.up (by decide)
      · exact O_Lsaid.up (by decide)) (fun p hp => by simp at hp) noneA noneA
  have O_law := ok_law (fun_mk (st := st_law) l_law c_law k_law) (PySem.W.mg_of X G a_law) V_law
  have F_law := fun_mk (st := st_law) l_law c_law k_law
  refine fnG_of (n := 40) F_law sc_law V_law (fun vs H E Q h => len_law h) (fun vs H E Q h => ?_)
  match vs, len_law h, h with
  | [v0], _, h => exact bd_law steps_wp h
theorem walk {l : PySem.W.OpenLaw} {q : Program} {loose : List Str} {XP : (Str → Option Value) → Heap → Prop} {YP : World → Heap → Prop} {d : DefRec} {K : Params → PySem.W.Frag} (hn : l.most = some 63) (hdf : d.params.defaults = []) (hY : ∀ (w : World) (h : Heap), YP w h → (K w.params).In h)
    (F : ∀ (w : World) (mg : Str → Option Value) (fa : Addr) (h : Heap), (K w.params).In h → h.Ns mainGlobals mg → mg d.name = some (.ref fa) →
      ∃ fd : FuncData, (∀ (s : Shared) (u : Value), BindsTo s fd ⟨[u], []⟩ [("_law_script", u)]) ∧ ∀ base : Heap, (K w.params).In base → base.Ns mainGlobals mg → FnG l.prog w (K w.params) mg base 7 fa fd ["_law_script"] (lowSp (K w.params) mg 1 sp_law)) :
    PySem.W.WalkO q loose XP YP l.row.toRowW d [] (fun f vs => PySem.call f vs) :=
  walkG_of (n := 63) (k := 7) (x := "_law_script") (sp := sp_law) hn (by decide) hdf ⟨rfl, by decide, by decide⟩ hY F fun ns hl => ⟨ns, rfl, hl, fun _ => rfl⟩
end K06
open PySem PySem.W PyProof.Rows
set_option maxRecDepth 100000 in
set_option maxHeartbeats 0 in
theorem PySem.Challenge.cw_pullpush_k06_takers_holds : PySem.Challenge.rw_pullpush_k06_takers.Holds := by
  w_on; o_law; k_head; (case hw => w_witness2)
  k_fill
  refine K06.walk (l := PySem.Challenge.rw_pullpush_k06_takers) rfl rfl (fun w h Y => PySem.W.kIn_of Y) ?F
  case F =>
    intro w mg fa h KX G hmg
    refine' K06.all_mk KX G hmg ?a_Lbegin ?l_Lbegin ?c_Lbegin ?k_Lbegin ?a_Lmixed ?l_Lmixed ?c_Lmixed ?k_Lmixed ?a_Lnext ?l_Lnext ?c_Lnext ?k_Lnext ?a_Lodd ?l_Lodd ?c_Lodd ?k_Lodd ?a_Lmade ?l_Lmade ?c_Lmade ?k_Lmade ?a_Ltwin ?l_Ltwin ?c_Ltwin ?k_Ltwin ?a_Lis_within ?l_Lis_within ?c_Lis_within ?k_Lis_within ?a_Lis_test ?l_Lis_test ?c_Lis_test ?k_Lis_test ?a_Lis_so ?l_Lis_so ?c_Lis_so ?k_Lis_so ?a_is_whole ?l_is_whole ?c_is_whole ?k_is_whole ?a_is_word_of ?l_is_word_of ?c_is_word_of ?k_is_word_of ?a_is_number ?l_is_number ?c_is_number ?k_is_number ?a_is_test ?l_is_test ?c_is_test ?k_is_test ?a_is_op ?l_is_op ?c_is_op ?k_is_op ?a_is_taker ?l_is_taker ?c_is_taker ?k_is_taker ?a_need_taker ?l_need_taker ?c_need_taker ?k_need_taker ?a_Lsaid ?l_Lsaid ?c_Lsaid ?k_Lsaid ?a_law ?l_law ?c_law ?k_law ?a_MOST ?a_TESTS ?l_TESTS ?a_OPS ?l_OPS ?a_MOST_TAKEN ?a_FlowError ?k_FlowError ?b_FlowError ?t_FlowError ?i_FlowError ?a_BadText ?k_BadText ?b_BadText ?t_BadText ?i_BadText ?a_Unsound ?k_Unsound ?b_Unsound ?t_Unsound ?i_Unsound ?a_BadNet ?k_BadNet ?b_BadNet ?t_BadNet ?i_BadNet ?a_BadTaker ?k_BadTaker ?b_BadTaker ?t_BadTaker ?i_BadTaker ?a_BadLimit ?k_BadLimit ?b_BadLimit ?t_BadLimit ?i_BadLimit ?a_BadAnswer ?k_BadAnswer ?b_BadAnswer ?t_BadAnswer ?i_BadAnswer ?a_Over ?k_Over ?b_Over ?t_Over ?i_Over ?a_BadRoom ?k_BadRoom ?b_BadRoom ?t_BadRoom ?i_BadRoom ?a_BadPlace ?k_BadPlace ?b_BadPlace ?t_BadPlace ?i_BadPlace ?a_BadAsked ?k_BadAsked ?b_BadAsked ?t_BadAsked ?i_BadAsked ?a_BadStory ?k_BadStory ?b_BadStory ?t_BadStory ?i_BadStory ?a_BadLoop ?k_BadLoop ?b_BadLoop ?t_BadLoop ?i_BadLoop ?a_TooMany ?k_TooMany ?b_TooMany ?t_TooMany ?i_TooMany ?a_BadLine ?k_BadLine ?b_BadLine ?t_BadLine ?i_BadLine ?hga_BadTaker ?hgt_BadTaker ?hd_BadTaker ?ha_BadTaker ?hm_BadTaker ?s_BadTaker_BadTaker ?s_BadTaker_FlowError ?s_BadTaker_BadAnswer ?s_BadTaker_BadAsked ?s_BadTaker_BadLimit ?s_BadTaker_BadLine ?s_BadTaker_BadLoop ?s_BadTaker_BadNet ?s_BadTaker_BadPlace ?s_BadTaker_BadRoom ?s_BadTaker_BadStory ?s_BadTaker_BadText ?s_BadTaker_Over ?s_BadTaker_TooMany ?s_BadTaker_Unsound ?x_BadTaker ?hn_ ?htk_ ?z_len ?z_abs ?z_max ?z_min ?z_int ?z_str ?z_tuple ?z_list ?z_all ?z_any ?z_isinstance ?z_range ?z_enumerate ?z_zip ?z_bool ?z_dict ?z_repr ?z_sum ?z_sorted ?z_ValueError
    (case a_Lbegin => k_is)
    (case l_Lbegin => k_is)
    (case c_Lbegin => k_is)
    (case k_Lbegin => k_is)
    (case a_Lmixed => k_is)
    (case l_Lmixed => k_is)
    (case c_Lmixed => k_is)
    (case k_Lmixed => k_is)
    (case a_Lnext => k_is)
    (case l_Lnext => k_is)
    (case c_Lnext => k_is)
    (case k_Lnext => k_is)
    (case a_Lodd => k_is)
    (case l_Lodd => k_is)
    (case c_Lodd => k_is)
    (case k_Lodd => k_is)
    (case a_Lmade => k_is)
    (case l_Lmade => k_is)
    (case c_Lmade => k_is)
    (case k_Lmade => k_is)
    (case a_Ltwin => k_is)
    (case l_Ltwin => k_is)
    (case c_Ltwin => k_is)
    (case k_Ltwin => k_is)
    (case a_Lis_within => k_is)
    (case l_Lis_within => k_is)
    (case c_Lis_within => k_is)
    (case k_Lis_within => k_is)
    (case a_Lis_test => k_is)
    (case l_Lis_test => k_is)
    (case c_Lis_test => k_is)
    (case k_Lis_test => k_is)
    (case a_Lis_so => k_is)
    (case l_Lis_so => k_is)
    (case c_Lis_so => k_is)
    (case k_Lis_so => k_is)
    (case a_is_whole => k_is)
    (case l_is_whole => k_is)
    (case c_is_whole => k_is)
    (case k_is_whole => k_is)
    (case a_is_word_of => k_is)
    (case l_is_word_of => k_is)
    (case c_is_word_of => k_is)
    (case k_is_word_of => k_is)
    (case a_is_number => k_is)
    (case l_is_number => k_is)
    (case c_is_number => k_is)
    (case k_is_number => k_is)
    (case a_is_test => k_is)
    (case l_is_test => k_is)
    (case c_is_test => k_is)
    (case k_is_test => k_is)
    (case a_is_op => k_is)
    (case l_is_op => k_is)
    (case c_is_op => k_is)
    (case k_is_op => k_is)
    (case a_is_taker => k_is)
    (case l_is_taker => k_is)
    (case c_is_taker => k_is)
    (case k_is_taker => k_is)
    (case a_need_taker => k_is)
    (case l_need_taker => k_is)
    (case c_need_taker => k_is)
    (case k_need_taker => k_is)
    (case a_Lsaid => k_is)
    (case l_Lsaid => k_is)
    (case c_Lsaid => k_is)
    (case k_Lsaid => k_is)
    (case a_law => k_is)
    (case l_law => k_is)
    (case c_law => k_is)
    (case k_law => k_is)
    (case a_MOST => k_is)
    (case a_TESTS => k_is)
    (case l_TESTS => k_is)
    (case a_OPS => k_is)
    (case l_OPS => k_is)
    (case a_MOST_TAKEN => k_is)
    (case a_FlowError => k_is)
    (case k_FlowError => k_is)
    (case b_FlowError => k_is)
    (case t_FlowError => k_is)
    (case i_FlowError => k_is)
    (case a_BadText => k_is)
    (case k_BadText => k_is)
    (case b_BadText => k_is)
    (case t_BadText => k_is)
    (case i_BadText => k_is)
    (case a_Unsound => k_is)
    (case k_Unsound => k_is)
    (case b_Unsound => k_is)
    (case t_Unsound => k_is)
    (case i_Unsound => k_is)
    (case a_BadNet => k_is)
    (case k_BadNet => k_is)
    (case b_BadNet => k_is)
    (case t_BadNet => k_is)
    (case i_BadNet => k_is)
    (case a_BadTaker => k_is)
    (case k_BadTaker => k_is)
    (case b_BadTaker => k_is)
    (case t_BadTaker => k_is)
    (case i_BadTaker => k_is)
    (case a_BadLimit => k_is)
    (case k_BadLimit => k_is)
    (case b_BadLimit => k_is)
    (case t_BadLimit => k_is)
    (case i_BadLimit => k_is)
    (case a_BadAnswer => k_is)
    (case k_BadAnswer => k_is)
    (case b_BadAnswer => k_is)
    (case t_BadAnswer => k_is)
    (case i_BadAnswer => k_is)
    (case a_Over => k_is)
    (case k_Over => k_is)
    (case b_Over => k_is)
    (case t_Over => k_is)
    (case i_Over => k_is)
    (case a_BadRoom => k_is)
    (case k_BadRoom => k_is)
    (case b_BadRoom => k_is)
    (case t_BadRoom => k_is)
    (case i_BadRoom => k_is)
    (case a_BadPlace => k_is)
    (case k_BadPlace => k_is)
    (case b_BadPlace => k_is)
    (case t_BadPlace => k_is)
    (case i_BadPlace => k_is)
    (case a_BadAsked => k_is)
    (case k_BadAsked => k_is)
    (case b_BadAsked => k_is)
    (case t_BadAsked => k_is)
    (case i_BadAsked => k_is)
    (case a_BadStory => k_is)
    (case k_BadStory => k_is)
    (case b_BadStory => k_is)
    (case t_BadStory => k_is)
    (case i_BadStory => k_is)
    (case a_BadLoop => k_is)
    (case k_BadLoop => k_is)
    (case b_BadLoop => k_is)
    (case t_BadLoop => k_is)
    (case i_BadLoop => k_is)
    (case a_TooMany => k_is)
    (case k_TooMany => k_is)
    (case b_TooMany => k_is)
    (case t_TooMany => k_is)
    (case i_TooMany => k_is)
    (case a_BadLine => k_is)
    (case k_BadLine => k_is)
    (case b_BadLine => k_is)
    (case t_BadLine => k_is)
    (case i_BadLine => k_is)
    (case hga_BadTaker => k_is)
    (case hgt_BadTaker => k_is)
    (case hd_BadTaker => k_is)
    (case ha_BadTaker => k_is)
    (case hm_BadTaker => k_is)
    (case s_BadTaker_BadTaker => k_is)
    (case s_BadTaker_FlowError => k_is)
    (case s_BadTaker_BadAnswer => k_is)
    (case s_BadTaker_BadAsked => k_is)
    (case s_BadTaker_BadLimit => k_is)
    (case s_BadTaker_BadLine => k_is)
    (case s_BadTaker_BadLoop => k_is)
    (case s_BadTaker_BadNet => k_is)
    (case s_BadTaker_BadPlace => k_is)
    (case s_BadTaker_BadRoom => k_is)
    (case s_BadTaker_BadStory => k_is)
    (case s_BadTaker_BadText => k_is)
    (case s_BadTaker_Over => k_is)
    (case s_BadTaker_TooMany => k_is)
    (case s_BadTaker_Unsound => k_is)
    (case x_BadTaker => k_exc)
    (case hn_ => k_is)
    (case htk_ => k_is)
    (case z_len => k_is)
    (case z_abs => k_is)
    (case z_max => k_is)
    (case z_min => k_is)
    (case z_int => k_is)
    (case z_str => k_is)
    (case z_tuple => k_is)
    (case z_list => k_is)
    (case z_all => k_is)
    (case z_any => k_is)
    (case z_isinstance => k_is)
    (case z_range => k_is)
    (case z_enumerate => k_is)
    (case z_zip => k_is)
    (case z_bool => k_is)
    (case z_dict => k_is)
    (case z_repr => k_is)
    (case z_sum => k_is)
    (case z_sorted => k_is)
    (case z_ValueError => k_is)


