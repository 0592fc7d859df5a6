import PyProof.Rows.All
import Wide.All
import OpenK.AllK
import Wide.FinOn
import HandS.ForMost
import HandS.ForExc
import HandS.CallSlots
import HandS.Wide
import HandS.TupAny
import HandS.IsInst
import HandS.RaiseMore
import KE.OsSortAny
import HandS.SetKeys
import PyProof.EqAt
import PyProof.EqKinds
import PyProof.TupleCall
import KE.KExcSuper
import KE.KSuper
import HandS.ExcField
import HandS.ExcIs
import HandS.TryOnly
import HandS.More
import HandS.Ends
import HandS.WordsExc
import PySem.Challenge.RW_movednames_k62_texts_of_deeds
import HandS.Text
import KE.IntTextLaws
set_option Elab.async false
set_option linter.all false
set_option maxRecDepth 100000
set_option maxHeartbeats 2000000
/-! # Plain data, a store of cells, and how the heap bears them -/
namespace DL
open PySem L2

/-- plain values: frozen data, and the numbers of cells -/
inductive D where
  | non | bl (b : Bool) | int (i : Int) | str (s : Str)
  | tup (ds : List D) | lst (ds : List D) | dct (kvs : List (Key × D))
  | scr (ns : List Int)
  | loc (n : Nat)
  | ob (v : V)
  | cls (k : Nat)
  | exn (k : Nat) (fs : List (Str × D))

/-- what a cell holds -/
inductive O where
  | lst (ds : List D) | dct (kvs : List (Key × D)) | ins (c : Nat) (fs : List (Str × D))

abbrev S := List (Option O)
/-- the class of an exception: an own one by its number, a built-in one -/
inductive XC where
  | own (k : Nat) | bi (n : String)
  deriving DecidableEq

inductive R (α : Type) where
  | ok (a : α) (s : S) | exc (k : XC) (fs : List (Str × D)) (s : S) | stuck

@[reducible] def M (α : Type) := S → R α
def R.bind {α β : Type} (r : R α) (f : α → M β) : R β := match r with
  | .ok a s => f a s
  | .exc k fs s => .exc k fs s
  | .stuck => .stuck
instance : Monad M where
  pure a := fun s => .ok a s
  bind m f := fun s => (m s).bind f
def mStuck {α : Type} : M α := fun _ => .stuck
def mRaise {α : Type} (k : XC) (fs : List (Str × D)) : M α := fun s => .exc k fs s
theorem bind_def {α β : Type} (m : M α) (f : α → M β) (s : S) : (m >>= f) s = (m s).bind f := rfl
theorem pure_def {α : Type} (a : α) (s : S) : (pure a : M α) s = .ok a s := rfl
theorem bind_pure' {α β : Type} (a : α) (f : α → M β) : (pure a >>= f : M β) = f a := rfl
theorem bind_stuck {α β : Type} (f : α → M β) : (mStuck >>= f : M β) = mStuck := rfl
theorem bind_raise {α β : Type} (k : XC) (fs : List (Str × D)) (f : α → M β) : (mRaise k fs >>= f : M β) = mRaise k fs := rfl
theorem bind_assoc' {α β γ : Type} (m : M α) (f : α → M β) (g : β → M γ) : ((m >>= f) >>= g : M γ) = m >>= fun a => f a >>= g := by
  funext s
  show ((m s).bind f).bind g = (m s).bind fun a => f a >>= g
  cases m s <;> rfl
theorem ite_bind {α β : Type} (b : Bool) (m n : M α) (f : α → M β) : ((if b = true then m else n) >>= f : M β) = if b = true then m >>= f else n >>= f := by
  cases b <;> rfl

/-- the class addresses -/
structure Ct where
  K : PySem.W.Frag
  ca : Nat → Addr
  /-- the caught error, its class, its dict -/
  ex : Option (Addr × Addr × Addr) := none

mutual
def Den (C : Ct) (G : Hp) (ρ : List Addr) : D → V → Prop
  | .non, v => v = .non
  | .bl b, v => v = .bl b
  | .int i, v => v = .int i
  | .str s, v => v = .str s
  | .tup ds, v => ∃ a vs, v = .ref a ∧ SqT C.K G a vs ∧ DenL C G ρ ds vs
  | .lst ds, v => ∃ a vs, v = .ref a ∧ G a = some (.lst vs) ∧ DenL C G ρ ds vs
  | .dct kvs, v => ∃ a ws, v = .ref a ∧ G a = some (.dK ws) ∧ DenK C G ρ kvs ws
  | .scr ns, v => ∃ a, v = .ref a ∧ SqL C.K G a (ns.map V.int)
  | .loc n, v => ∃ a, v = .ref a ∧ ρ[n]? = some a
  | .ob u, v => v = u
  | .cls k, v => v = .ref (C.ca k)
  | .exn k fs, v => ∃ a dx gs, v = .ref a ∧ C.ex = some (a, C.ca k, dx) ∧ G dx = some (.xd gs) ∧ DenF C G ρ fs gs
def DenL (C : Ct) (G : Hp) (ρ : List Addr) : List D → List V → Prop
  | [], vs => vs = []
  | d :: ds, vs => ∃ v r, vs = v :: r ∧ Den C G ρ d v ∧ DenL C G ρ ds r
def DenK (C : Ct) (G : Hp) (ρ : List Addr) : List (Key × D) → List (Key × V) → Prop
  | [], vs => vs = []
  | (k, d) :: ds, vs => ∃ v r, vs = (k, v) :: r ∧ Den C G ρ d v ∧ DenK C G ρ ds r
def DenF (C : Ct) (G : Hp) (ρ : List Addr) : List (Str × D) → List (Str × V) → Prop
  | [], vs => vs = []
  | (k, d) :: ds, vs => ∃ v r, vs = (k, v) :: r ∧ Den C G ρ d v ∧ DenF C G ρ ds r
end

/-- heaps grow -/
def Gr (G G' : Hp) : Prop := ∀ a o, G a = some o → G' a = some o
theorem Gr.refl (G : Hp) : Gr G G := fun _ _ h => h
theorem Gr.trans {A B E : Hp} (h : Gr A B) (k : Gr B E) : Gr A E := fun a o e => k a o (h a o e)
theorem Gr.sqt {K : PySem.W.Frag} {G G' : Hp} (h : Gr G G') {a : Addr} {vs : List V} (q : SqT K G a vs) : SqT K G' a vs := by
  rcases q with (q | ⟨o, q⟩) | q
  · exact .inl (.inl (h _ _ q))
  · exact .inl (.inr ⟨o, h _ _ q⟩)
  · exact .inr q
theorem Gr.sql {K : PySem.W.Frag} {G G' : Hp} (h : Gr G G') {a : Addr} {vs : List V} (q : SqL K G a vs) : SqL K G' a vs := by
  rcases q with (q | ⟨o, q⟩) | q
  · exact .inl (.inl (h _ _ q))
  · exact .inl (.inr ⟨o, h _ _ q⟩)
  · exact .inr q
def Pre (ρ ρ' : List Addr) : Prop := ∃ more, ρ' = ρ ++ more
theorem Pre.refl (ρ : List Addr) : Pre ρ ρ := ⟨[], by simp⟩
theorem Pre.get {ρ ρ' : List Addr} (h : Pre ρ ρ') {n : Nat} {a : Addr} (e : ρ[n]? = some a) : ρ'[n]? = some a := by
  obtain ⟨m, rfl⟩ := h
  rw [List.getElem?_append_left (List.getElem?_eq_some_iff.mp e).1]
  exact e
theorem Pre.trans {a b c : List Addr} (h : Pre a b) (k : Pre b c) : Pre a c := by
  obtain ⟨x, rfl⟩ := h
  obtain ⟨y, rfl⟩ := k
  exact ⟨x ++ y, by simp⟩
theorem Pre.mem {ρ ρ' : List Addr} (h : Pre ρ ρ') {a : Addr} (e : a ∈ ρ) : a ∈ ρ' := by
  obtain ⟨m, rfl⟩ := h
  exact List.mem_append_left _ e

mutual
theorem Den.mono {C : Ct} {G G' : Hp} {ρ ρ' : List Addr} (hG : Gr G G') (hρ : Pre ρ ρ') : ∀ (d : D) (v : V), Den C G ρ d v → Den C G' ρ' d v
  | .non, _, h => h
  | .bl _, _, h => h
  | .int _, _, h => h
  | .str _, _, h => h
  | .tup ds, v, h => by
    simp only [Den] at h ⊢
    obtain ⟨a, vs, e, s, l⟩ := h
    exact ⟨a, vs, e, hG.sqt s, DenL.mono hG hρ ds vs l⟩
  | .lst ds, v, h => by
    simp only [Den] at h ⊢
    obtain ⟨a, vs, e, s, l⟩ := h
    exact ⟨a, vs, e, hG _ _ s, DenL.mono hG hρ ds vs l⟩
  | .dct ds, v, h => by
    simp only [Den] at h ⊢
    obtain ⟨a, vs, e, s, l⟩ := h
    exact ⟨a, vs, e, hG _ _ s, DenK.mono hG hρ ds vs l⟩
  | .scr ns, v, h => by
    simp only [Den] at h ⊢
    obtain ⟨a, e, s⟩ := h
    exact ⟨a, e, hG.sql s⟩
  | .loc n, v, h => by
    simp only [Den] at h ⊢
    obtain ⟨a, e, s⟩ := h
    exact ⟨a, e, hρ.get s⟩
  | .ob _, _, h => h
  | .cls _, _, h => h
  | .exn k fs, v, h => by
    simp only [Den] at h ⊢
    obtain ⟨a, dx, gs, e, x, g, l⟩ := h
    exact ⟨a, dx, gs, e, x, hG _ _ g, DenF.mono hG hρ fs gs l⟩
theorem DenL.mono {C : Ct} {G G' : Hp} {ρ ρ' : List Addr} (hG : Gr G G') (hρ : Pre ρ ρ') : ∀ (ds : List D) (vs : List V), DenL C G ρ ds vs → DenL C G' ρ' ds vs
  | [], _, h => h
  | d :: ds, vs, h => by
    simp only [DenL] at h ⊢
    obtain ⟨v, r, e, h1, h2⟩ := h
    exact ⟨v, r, e, Den.mono hG hρ d v h1, DenL.mono hG hρ ds r h2⟩
theorem DenK.mono {C : Ct} {G G' : Hp} {ρ ρ' : List Addr} (hG : Gr G G') (hρ : Pre ρ ρ') : ∀ (ds : List (Key × D)) (vs : List (Key × V)), DenK C G ρ ds vs → DenK C G' ρ' ds vs
  | [], _, h => h
  | (k, d) :: ds, vs, h => by
    simp only [DenK] at h ⊢
    obtain ⟨v, r, e, h1, h2⟩ := h
    exact ⟨v, r, e, Den.mono hG hρ d v h1, DenK.mono hG hρ ds r h2⟩
theorem DenF.mono {C : Ct} {G G' : Hp} {ρ ρ' : List Addr} (hG : Gr G G') (hρ : Pre ρ ρ') : ∀ (ds : List (Str × D)) (vs : List (Str × V)), DenF C G ρ ds vs → DenF C G' ρ' ds vs
  | [], _, h => h
  | (k, d) :: ds, vs, h => by
    simp only [DenF] at h ⊢
    obtain ⟨v, r, e, h1, h2⟩ := h
    exact ⟨v, r, e, Den.mono hG hρ d v h1, DenF.mono hG hρ ds r h2⟩
end

theorem DenL.length {C : Ct} {G : Hp} {ρ : List Addr} : ∀ {ds : List D} {vs : List V}, DenL C G ρ ds vs → vs.length = ds.length
  | [], _, h => by simp only [DenL] at h; subst h; rfl
  | d :: ds, vs, h => by
    simp only [DenL] at h
    obtain ⟨v, r, rfl, _, h2⟩ := h
    simp [DenL.length h2]
theorem DenL.get {C : Ct} {G : Hp} {ρ : List Addr} : ∀ {ds : List D} {vs : List V} {i : Nat} {v : V}, DenL C G ρ ds vs → vs[i]? = some v → ∃ d, ds[i]? = some d ∧ Den C G ρ d v
  | [], _, i, v, h, e => by simp only [DenL] at h; subst h; simp at e
  | d :: ds, vs, i, v, h, e => by
    simp only [DenL] at h
    obtain ⟨w, r, rfl, h1, h2⟩ := h
    cases i with
    | zero => simp at e; subst e; exact ⟨d, by simp, h1⟩
    | succ i =>
      obtain ⟨d', e', h'⟩ := DenL.get (i := i) h2 (by simpa using e)
      exact ⟨d', by simpa using e', h'⟩
theorem DenL.get' {C : Ct} {G : Hp} {ρ : List Addr} : ∀ {ds : List D} {vs : List V} {i : Nat} {d : D}, DenL C G ρ ds vs → ds[i]? = some d → ∃ v, vs[i]? = some v ∧ Den C G ρ d v
  | [], _, i, d, h, e => by simp at e
  | d :: ds, vs, i, d', h, e => by
    simp only [DenL] at h
    obtain ⟨w, r, rfl, h1, h2⟩ := h
    cases i with
    | zero => simp at e; subst e; exact ⟨w, by simp, h1⟩
    | succ i =>
      obtain ⟨v', e', h'⟩ := DenL.get' (i := i) h2 (by simpa using e)
      exact ⟨v', by simpa using e', h'⟩
theorem DenL.append {C : Ct} {G : Hp} {ρ : List Addr} : ∀ {ds es : List D} {vs ws : List V}, DenL C G ρ ds vs → DenL C G ρ es ws → DenL C G ρ (ds ++ es) (vs ++ ws)
  | [], _, _, _, h, k => by simp only [DenL] at h; subst h; exact k
  | d :: ds, es, vs, ws, h, k => by
    simp only [DenL] at h
    obtain ⟨w, r, rfl, h1, h2⟩ := h
    simp only [List.cons_append, DenL]
    exact ⟨w, r ++ ws, rfl, h1, DenL.append h2 k⟩
theorem DenL.one {C : Ct} {G : Hp} {ρ : List Addr} {d : D} {v : V} (h : Den C G ρ d v) : DenL C G ρ [d] [v] := by
  simp only [DenL]
  exact ⟨v, [], rfl, h, rfl⟩
theorem DenL.nil {C : Ct} {G : Hp} {ρ : List Addr} : DenL C G ρ [] [] := by simp only [DenL]
theorem DenL.cons {C : Ct} {G : Hp} {ρ : List Addr} {d : D} {v : V} {ds : List D} {vs : List V} (h : Den C G ρ d v) (k : DenL C G ρ ds vs) : DenL C G ρ (d :: ds) (v :: vs) := by
  simp only [DenL]
  exact ⟨v, vs, rfl, h, k⟩
theorem DenL.set {C : Ct} {G : Hp} {ρ : List Addr} {d : D} {v : V} (k : Den C G ρ d v) : ∀ {ds : List D} {vs : List V} (i : Nat), DenL C G ρ ds vs → DenL C G ρ (ds.set i d) (vs.set i v)
  | [], _, i, h => by simp only [DenL] at h; subst h; simp [DenL]
  | e :: ds, vs, i, h => by
    simp only [DenL] at h
    obtain ⟨w, r, rfl, h1, h2⟩ := h
    cases i with
    | zero => exact .cons k h2
    | succ i => exact .cons h1 (DenL.set k i h2)
theorem DenL.drop {C : Ct} {G : Hp} {ρ : List Addr} : ∀ {ds : List D} {vs : List V} (i : Nat), DenL C G ρ ds vs → DenL C G ρ (ds.drop i) (vs.drop i)
  | [], _, i, h => by simp only [DenL] at h; subst h; simp [DenL]
  | e :: ds, vs, 0, h => h
  | e :: ds, vs, i + 1, h => by
    simp only [DenL] at h
    obtain ⟨w, r, rfl, h1, h2⟩ := h
    exact DenL.drop i h2
theorem DenL.take {C : Ct} {G : Hp} {ρ : List Addr} : ∀ {ds : List D} {vs : List V} (i : Nat), DenL C G ρ ds vs → DenL C G ρ (ds.take i) (vs.take i)
  | [], _, i, h => by simp only [DenL] at h; subst h; simp [DenL]
  | e :: ds, vs, 0, h => by simp [DenL]
  | e :: ds, vs, i + 1, h => by
    simp only [DenL] at h
    obtain ⟨w, r, rfl, h1, h2⟩ := h
    exact .cons h1 (DenL.take i h2)

/-! ### configurations -/
structure Cf where
  H : Hp
  G : Hp
  ρ : List Addr
  s : S
/-- how a cell's object stands -/
def OR (C : Ct) (G : Hp) (ρ : List Addr) : O → Addr → HO → Prop
  | .lst ds, _, h => ∃ vs, h = .lst vs ∧ DenL C G ρ ds vs
  | .dct kvs, _, h => ∃ ws, h = .dK ws ∧ DenK C G ρ kvs ws
  | .ins c fs, a, h => ∃ dx gs, h = .ins (C.ca c) dx gs ∧ G dx = some (.own a) ∧ DenF C G ρ fs gs
theorem OR.mono {C : Ct} {G G' : Hp} {ρ ρ' : List Addr} {o : O} {a : Addr} {h : HO} (hG : Gr G G') (hρ : Pre ρ ρ') (x : OR C G ρ o a h) : OR C G' ρ' o a h := by
  cases o with
  | lst ds => obtain ⟨vs, e, l⟩ := x; exact ⟨vs, e, l.mono hG hρ⟩
  | dct ds => obtain ⟨vs, e, l⟩ := x; exact ⟨vs, e, l.mono hG hρ⟩
  | ins c fs => obtain ⟨dx, vs, e, g, l⟩ := x; exact ⟨dx, vs, e, hG _ _ g, l.mono hG hρ⟩

structure WF (C : Ct) (c : Cf) : Prop where
  ext : Gr c.G c.H
  len : c.ρ.length = c.s.length
  nd : c.ρ.Nodup
  dom : ∀ a ∈ c.ρ, c.H a ≠ none
  cel : ∀ (n : Nat) (o : O), c.s[n]? = some (some o) → ∃ a ho, c.ρ[n]? = some a ∧ c.G a = none ∧ c.H a = some ho ∧ OR C c.G c.ρ o a ho

/-- what a step may change: new addresses, and the live cells -/
structure Ext (c c' : Cf) : Prop where
  g : Gr c.G c'.G
  fr : ∀ a, c.G a = none → c.H a ≠ none → c'.G a = none
  kp : ∀ a o, c.H a = some o → a ∉ c.ρ → c'.H a = some o
  dom : ∀ a, c.H a ≠ none → c'.H a ≠ none
  pr : ∃ more, c'.ρ = c.ρ ++ more ∧ ∀ a ∈ more, c.H a = none
theorem Ext.refl (c : Cf) : Ext c c := ⟨Gr.refl _, fun _ h _ => h, fun _ _ h _ => h, fun _ h => h, ⟨[], by simp⟩⟩
theorem Ext.pre {c c' : Cf} (h : Ext c c') : Pre c.ρ c'.ρ := by
  obtain ⟨m, e, _⟩ := h.pr
  exact ⟨m, e⟩
theorem Ext.trans {a b c : Cf} (h : Ext a b) (k : Ext b c) : Ext a c := by
  obtain ⟨m1, e1, f1⟩ := h.pr
  obtain ⟨m2, e2, f2⟩ := k.pr
  refine ⟨h.g.trans k.g, fun x g d => k.fr x (h.fr x g d) (h.dom x d), fun x o e n => k.kp x o (h.kp x o e n) ?_, fun x d => k.dom x (h.dom x d), ⟨m1 ++ m2, by rw [e2, e1, List.append_assoc], fun x hx => ?_⟩⟩
  · rw [e1]
    intro hm
    rcases List.mem_append.mp hm with hm | hm
    · exact n hm
    · have := f1 x hm
      rw [e] at this
      cases this
  · rcases List.mem_append.mp hx with hx | hx
    · exact f1 x hx
    · have := f2 x hx
      cases q : a.H x with
      | none => rfl
      | some o => exact absurd this (h.dom x (by rw [q]; simp))

/-- the end of a piece of code: what the mirror says of it, as the heap bears it -/
def Fn (C : Ct) (c : Cf) {α : Type} (r : R α) (K : α → Cf → Prop) (E : XK) : Prop := match r with
  | .ok a s' => ∀ c', c'.s = s' → Ext c c' → WF C c' → K a c'
  | .exc (.own k) fs s' => ∀ c' dx gs, c'.s = s' → Ext c c' → WF C c' → c'.G dx = some (.xd gs) → DenF C c'.G c'.ρ fs gs → E (.ref (C.ca k)) (some dx) c'.H
  | .exc (.bi n) _ s' => ∀ c', c'.s = s' → Ext c c' → WF C c' → E (.type n) none c'.H
  | .stuck => False
theorem Fn.mono {C : Ct} {c c1 : Cf} {α : Type} {r : R α} {K : α → Cf → Prop} {E : XK} (e : Ext c c1) (h : Fn C c r K E) : Fn C c1 r K E := by
  cases r with
  | ok a s' => exact fun c' q x w => h c' q (e.trans x) w
  | exc k fs s' =>
    cases k with
    | own k => exact fun c' dx gs q x w => h c' dx gs q (e.trans x) w
    | bi n => exact fun c' q x w => h c' q (e.trans x) w
  | stuck => exact h
theorem Fn.excK {C : Ct} {c : Cf} {α β : Type} {k : XC} {fs : List (Str × D)} {s' : S} {K : α → Cf → Prop} {K' : β → Cf → Prop} {E : XK} (h : Fn C c (.exc k fs s' : R α) K E) : Fn C c (.exc k fs s' : R β) K' E := by
  cases k <;> exact h
theorem Fn.imp {C : Ct} {c : Cf} {α : Type} {r : R α} {K K' : α → Cf → Prop} {E : XK} (h : Fn C c r K E) (k : ∀ a c', Ext c c' → WF C c' → K a c' → K' a c') : Fn C c r K' E := by
  cases r with
  | ok a s' => exact fun c' q x w => k a c' x w (h c' q x w)
  | exc k fs s' => exact Fn.excK h
  | stuck => exact h
/-- the sequel of a piece that has ended -/
theorem Fn.bind {C : Ct} {c : Cf} {α β : Type} {m : R α} {f : α → M β} {K1 : α → Cf → Prop} {K : β → Cf → Prop} {E : XK} (h : Fn C c (m.bind f) K E)
    (k : ∀ a c', Ext c c' → WF C c' → Fn C c' (f a c'.s) K E → K1 a c') : Fn C c m K1 E := by
  cases m with
  | ok a s' => exact fun c' q x w => k a c' x w (by subst q; exact Fn.mono x h)
  | exc k fs s' => exact Fn.excK h
  | stuck => exact h
theorem Fn.bind0 {C : Ct} {c : Cf} {α β : Type} {m : R α} {f : α → M β} {K1 : α → Cf → Prop} {K : β → Cf → Prop} {E : XK} (h : Fn C c (m.bind f) K E)
    (k : ∀ a c', Ext c c' → WF C c' → Fn C c (f a c'.s) K E → K1 a c') : Fn C c m K1 E := by
  cases m with
  | ok a s' => exact fun c' q x w => k a c' x w (by subst q; exact h)
  | exc k fs s' => exact Fn.excK h
  | stuck => exact h
theorem Fn.ok {C : Ct} {c : Cf} {α : Type} {a : α} {K : α → Cf → Prop} {E : XK} (w : WF C c) (h : Fn C c (.ok a c.s) K E) : K a c := h c rfl (Ext.refl c) w

/-! ### slots -/
/-- a slot holds a value, or a container of its own -/
inductive SD where
  | val (d : D) | own (o : O)
abbrev LE := List (Option SD)
structure Rl (C : Ct) (env : LE) (σ : St) (c : Cf) : Prop where
  wf : WF C c
  len : env.length = σ.length
  val : ∀ (i : Nat) (d : D), env[i]? = some (some (.val d)) → ∃ v, σ[i]? = some (some v) ∧ Den C c.G c.ρ d v
  own : ∀ (i : Nat) (o : O), env[i]? = some (some (.own o)) → ∃ a ho, σ[i]? = some (some (.ref a)) ∧ c.G a = none ∧ a ∉ c.ρ ∧ c.H a = some ho ∧ OR C c.G c.ρ o a ho
  apart : ∀ (i j : Nat) (o u : O) (a : Addr), env[i]? = some (some (.own o)) → env[j]? = some (some (.own u)) → σ[i]? = some (some (.ref a)) → σ[j]? = some (some (.ref a)) → i = j
theorem Rl.ext {C : Ct} {env : LE} {σ : St} {c c' : Cf} (h : Rl C env σ c) (e : Ext c c') (w : WF C c') : Rl C env σ c' := by
  refine ⟨w, h.len, fun i d q => ?_, fun i o q => ?_, h.apart⟩
  · obtain ⟨v, q1, q2⟩ := h.val i d q
    exact ⟨v, q1, q2.mono e.g e.pre⟩
  · obtain ⟨a, ho, q1, q2, q3, q4, q5⟩ := h.own i o q
    refine ⟨a, ho, q1, e.fr a q2 (by rw [q4]; simp), ?_, e.kp a ho q4 q3, q5.mono e.g e.pre⟩
    obtain ⟨m, em, fm⟩ := e.pr
    rw [em]
    intro hm
    rcases List.mem_append.mp hm with hm | hm
    · exact q3 hm
    · have := fm a hm
      rw [q4] at this
      cases this

/-! ### judgements -/
theorem Fn.ret {C : Ct} {c : Cf} {α : Type} {a : α} {K : α → Cf → Prop} {E : XK} (w : WF C c) (h : Fn C c ((pure a : M α) c.s) K E) : K a c := h c rfl (Ext.refl c) w
abbrev KD (C : Ct) (Q : VK) : D → Cf → Prop := fun d c => ∀ v, Den C c.G c.ρ d v → Q v c.H
abbrev KB (Q : Bool → Hp → Prop) : Bool → Cf → Prop := fun b c => Q b c.H
abbrev KA (C : Ct) (Q : List V → Hp → Prop) : List D → Cf → Prop := fun ds c => ∀ vs, DenL C c.G c.ρ ds vs → Q vs c.H
/-- a new object at p, fresh since c0 -/
structure New (C : Ct) (c0 c : Cf) (o : O) (p : Addr) : Prop where
  fresh : c0.H p = none
  g : c.G p = none
  r : p ∉ c.ρ
  at' : ∃ ho, c.H p = some ho ∧ OR C c.G c.ρ o p ho
abbrev KN (C : Ct) (c0 : Cf) (Q : VK) : O → Cf → Prop := fun o c => ∀ p, New C c0 c o p → Q (.ref p) c.H
/-- an expression's reading does what the mirror says; W: what is wished of an exception, at the slots -/
def SimE (C : Ct) (W : WX) (t : TE) (m : LE → M D) : Prop :=
  ∀ env σ c Q, Rl C env σ c → Fn C c (m env c.s) (KD C Q) (fun a b H => W a b σ H) → t σ c.H Q
structure SE (X : Cx) (C : Ct) (W : WX) (e : Expr) (m : LE → M D) : Prop where
  out : ∃ t, PE X e t ∧ SimE C W t m
/-- tests -/
def SimT (C : Ct) (W : WX) (t : TT) (m : LE → M Bool) : Prop :=
  ∀ env σ c Q, Rl C env σ c → Fn C c (m env c.s) (KB Q) (fun a b H => W a b σ H) → t σ c.H Q
structure STe (X : Cx) (C : Ct) (W : WX) (e : Expr) (m : LE → M Bool) : Prop where
  out : ∃ t, PT X e t ∧ SimT C W t m
structure SW (X : Cx) (C : Ct) (W : WX) (e : Expr) (m : LE → M Bool) : Prop where
  out : ∃ t, PW X e t ∧ SimT C W t m
/-- argument lists -/
def SimA (C : Ct) (W : WX) (t : TA) (m : LE → M (List D)) : Prop :=
  ∀ env σ c Q, Rl C env σ c → Fn C c (m env c.s) (KA C Q) (fun a b H => W a b σ H) → t σ c.H Q
structure SA (X : Cx) (C : Ct) (W : WX) (es : List Expr) (m : LE → M (List D)) : Prop where
  out : ∃ t, PA X es t ∧ SimA C W t m
/-- expressions that give a new object -/
def SimN (C : Ct) (W : WX) (t : TE) (m : LE → M O) : Prop :=
  ∀ env σ c Q, Rl C env σ c → Fn C c (m env c.s) (KN C c Q) (fun a b H => W a b σ H) → t σ c.H Q
structure SN (X : Cx) (C : Ct) (W : WX) (e : Expr) (m : LE → M O) : Prop where
  out : ∃ t, PE X e t ∧ SimN C W t m
/-- where the code stands: the written part is C's -/
theorem Ext.free {c c' : Cf} (e : Ext c c') {p : Addr} (h : c'.H p = none) : c.H p = none := by
  cases q : c.H p with
  | none => rfl
  | some o => exact absurd h (e.dom p (by rw [q]; simp))
theorem WF.gfree {C : Ct} {c : Cf} (w : WF C c) {p : Addr} (h : c.H p = none) : c.G p = none := by
  cases q : c.G p with
  | none => rfl
  | some o => rw [w.ext p o q] at h; cases h
theorem WF.rfree {C : Ct} {c : Cf} (w : WF C c) {p : Addr} (h : c.H p = none) : p ∉ c.ρ := fun hm => w.dom p hm h

/-! ### steps of the heap -/
/-- a new object laid at p, frozen -/
theorem lay_frozen {C : Ct} {c : Cf} {p : Addr} {o : HO} (w : WF C c) (hp : c.H p = none) :
    WF C ⟨upd c.H p o, upd c.G p o, c.ρ, c.s⟩ ∧ Ext c ⟨upd c.H p o, upd c.G p o, c.ρ, c.s⟩ := by
  have ne : ∀ a, c.H a ≠ none → a ≠ p := fun a h e => by subst e; exact h hp
  have gp := w.gfree hp
  have hG : Gr c.G (upd c.G p o) := fun a u e => by rw [upd_ne (ne_of_none e gp)]; exact e
  refine ⟨⟨fun a u e => ?_, w.len, w.nd, fun a ha => ?_, fun n u e => ?_⟩, ⟨hG, fun a g d => ?_, fun a u e _ => ?_, fun a d => ?_, ⟨[], by simp⟩⟩⟩
  · have e' : upd c.G p o a = some u := e
    show upd c.H p o a = some u
    by_cases h : a = p
    · subst h; rw [upd_same] at e' ⊢; exact e'
    · rw [upd_ne h] at e' ⊢; exact w.ext a u e'
  · show upd c.H p o a ≠ none
    rw [upd_ne (ne a (w.dom a ha))]; exact w.dom a ha
  · obtain ⟨a, ho, r, g, h, x⟩ := w.cel n u e
    have na : a ≠ p := ne a (by rw [h]; simp)
    exact ⟨a, ho, r, by show upd c.G p o a = none; rw [upd_ne na]; exact g, by show upd c.H p o a = _; rw [upd_ne na]; exact h, x.mono hG (Pre.refl _)⟩
  · show upd c.G p o a = none
    rw [upd_ne (ne a d)]; exact g
  · show upd c.H p o a = _
    rw [upd_ne (ne a (by rw [e]; simp))]; exact e
  · show upd c.H p o a ≠ none
    rw [upd_ne (ne a d)]; exact d
/-- a new object laid at p, of nobody yet -/
theorem lay_new {C : Ct} {c : Cf} {p : Addr} {o : HO} (w : WF C c) (hp : c.H p = none) :
    WF C ⟨upd c.H p o, c.G, c.ρ, c.s⟩ ∧ Ext c ⟨upd c.H p o, c.G, c.ρ, c.s⟩ := by
  have ne : ∀ a, c.H a ≠ none → a ≠ p := fun a h e => by subst e; exact h hp
  have gp := w.gfree hp
  refine ⟨⟨fun a u e => ?_, w.len, w.nd, fun a ha => ?_, fun n u e => ?_⟩, ⟨Gr.refl _, fun a g d => g, fun a u e _ => ?_, fun a d => ?_, ⟨[], by simp⟩⟩⟩
  · show upd c.H p o a = _
    rw [upd_ne (ne_of_none e gp)]; exact w.ext a u e
  · show upd c.H p o a ≠ none
    rw [upd_ne (ne a (w.dom a ha))]; exact w.dom a ha
  · obtain ⟨a, ho, r, g, h, x⟩ := w.cel n u e
    have na : a ≠ p := ne a (by rw [h]; simp)
    exact ⟨a, ho, r, g, by show upd c.H p o a = _; rw [upd_ne na]; exact h, x⟩
  · show upd c.H p o a = _
    rw [upd_ne (ne a (by rw [e]; simp))]; exact e
  · show upd c.H p o a ≠ none
    rw [upd_ne (ne a d)]; exact d
/-- an object of nobody is frozen -/
theorem freeze {C : Ct} {c : Cf} {p : Addr} {o : HO} (w : WF C c) (hp : c.H p = some o) (hg : c.G p = none) (hr : p ∉ c.ρ) : WF C ⟨c.H, upd c.G p o, c.ρ, c.s⟩ ∧ Gr c.G (upd c.G p o) := by
  have hG : Gr c.G (upd c.G p o) := fun a u e => by rw [upd_ne (ne_of_none e hg)]; exact e
  refine ⟨⟨fun a u e => ?_, w.len, w.nd, w.dom, fun n u e => ?_⟩, hG⟩
  · by_cases h : a = p
    · subst h
      have e' : upd c.G a o a = some u := e
      rw [upd_same] at e'
      cases e'
      exact hp
    · have e' : upd c.G p o a = some u := e
      rw [upd_ne h] at e'
      exact w.ext a u e'
  · obtain ⟨a, ho, r, g, h, x⟩ := w.cel n u e
    have na : a ≠ p := fun z => by subst z; exact hr (List.mem_of_getElem? r)
    exact ⟨a, ho, r, by show upd c.G p o a = none; rw [upd_ne na]; exact g, h, x.mono hG (Pre.refl _)⟩

end DL
set_option Elab.async false
set_option linter.all false
set_option maxRecDepth 100000
set_option maxHeartbeats 2000000
/-! # Expressions -/
namespace DL
open PySem L2
section
variable {X : Cx} {C : Ct} {W : WX}
/-! ### names and constants -/
def eVar (i : Nat) : LE → M D := fun env => match env[i]? with
  | some (some (.val d)) => pure d
  | _ => mStuck
theorem se_var (i : Nat) {x : Str} {pos : Pos} (hN : X.N[i]? = some x := by rfl) (hv : Vis X.env.scope x := by first | exact Or.inl rfl | exact Or.inr (Or.inl rfl) | exact Or.inr (Or.inr rfl)) (hd : (x == ("__debug__" : Str)) = false := by decide)
    (hcd : (x == ("__classdict__" : Str)) = false := by decide) : SE X C W (.Name x pos) (eVar i) := by
  refine ⟨_, pe_var hN hv hd hcd, fun env σ c Q hR hF => ?_⟩
  unfold eVar at hF
  cases e : env[i]? with
  | none => rw [e] at hF; exact False.elim hF
  | some o =>
    cases o with
    | none => rw [e] at hF; exact False.elim hF
    | some sd =>
      cases sd with
      | val d =>
        rw [e] at hF
        obtain ⟨v, e1, dn⟩ := hR.val i d e
        exact ⟨v, e1, Fn.ok hR.wf hF v dn⟩
      | own o => rw [e] at hF; exact False.elim hF
def eK (d : D) : LE → M D := fun _ => pure d
theorem se_int {i : Int} {j pos} : SE X C W (.Constant (.int i) j pos) (eK (.int i)) := ⟨_, pe_int, fun env σ c Q hR hF => Fn.ok hR.wf hF _ rfl⟩
theorem se_bl {i : Bool} {j pos} : SE X C W (.Constant (.bool i) j pos) (eK (.bl i)) := ⟨_, pe_bl, fun env σ c Q hR hF => Fn.ok hR.wf hF _ rfl⟩
theorem se_non {j pos} : SE X C W (.Constant .none j pos) (eK .non) := ⟨_, pe_non, fun env σ c Q hR hF => Fn.ok hR.wf hF _ rfl⟩
theorem se_str {i : Str} {j pos} : SE X C W (.Constant (.str i) j pos) (eK (.str i)) := ⟨_, pe_str, fun env σ c Q hR hF => Fn.ok hR.wf hF _ rfl⟩
/-- a constant of the module -/
structure KV (C : Ct) (u : Value) (d : D) : Prop where
  at' : ∃ v, RelV v u ∧ ∀ G ρ, Den C G ρ d v
theorem se_glob {x : Str} {u : Value} {d : D} {pos : Pos} (hm : X.mg x = some u) (k : KV C u d) (hg : Gl X x := by rfl) (hd : (x == ("__debug__" : Str)) = false := by decide) : SE X C W (.Name x pos) (eK d) := by
  obtain ⟨v, r, h⟩ := k.at'
  exact ⟨_, pe_glob hg hm r hd, fun env σ c Q hR hF => Fn.ok hR.wf hF _ (h _ _)⟩

/-! ### operators by values -/
def SimO (C : Ct) (r : R2) (f : D → D → M D) : Prop :=
  ∀ c x y v w Q E, WF C c → Den C c.G c.ρ x v → Den C c.G c.ρ y w → Fn C c (f x y c.s) (KD C Q) E → r v w c.H Q
def eBin (f : D → D → M D) (ma mb : LE → M D) : LE → M D := fun env => ma env >>= fun x => mb env >>= fun y => f x y
theorem sim_op {r : R2} {f : D → D → M D} {ta tb : TE} {ma mb : LE → M D} (hf : SimO C r f) (sa : SimE C W ta ma) (sb : SimE C W tb mb) : SimE C W (tOp r ta tb) (eBin f ma mb) := by
  intro env σ c Q hR hF
  refine sa env σ c _ hR (Fn.bind hF fun x c1 e1 w1 hF1 v d1 => ?_)
  refine sb env σ c1 _ (hR.ext e1 w1) (Fn.bind hF1 fun y c2 e2 w2 hF2 w d2 => ?_)
  exact hf c2 x y v w Q _ w2 (d1.mono e2.g e2.pre) d2 hF2
theorem se_op {op : Operator} {r : R2} {f : D → D → M D} {a b : Expr} {ma mb : LE → M D} {pos : Pos} (ho : OpR X (binaryOp op) r) (hf : SimO C r f) (ha : SE X C W a ma) (hb : SE X C W b mb) : SE X C W (.BinOp a op b pos) (eBin f ma mb) := by
  obtain ⟨ta, pa, sa⟩ := ha.out
  obtain ⟨tb, pb, sb⟩ := hb.out
  exact ⟨_, pe_op ho pa pb, sim_op hf sa sb⟩
theorem se_cmp {op : CmpOp} {r : R2} {f : D → D → M D} {a b : Expr} {ma mb : LE → M D} {pos : Pos} (ho : OpR X (compareOp op) r) (hf : SimO C r f) (ha : SE X C W a ma) (hb : SE X C W b mb) (hm : behindInMarks op b = false := by first | exact nomark _ | rfl) : SE X C W (.Compare a [op] [b] pos) (eBin f ma mb) := by
  obtain ⟨ta, pa, sa⟩ := ha.out
  obtain ⟨tb, pb, sb⟩ := hb.out
  exact ⟨_, pe_cmpR ho pa pb hm, sim_op hf sa sb⟩
def asB : D → M Bool
  | .bl b => pure b
  | _ => mStuck
def tOf (m : LE → M D) : LE → M Bool := fun env => m env >>= asB
theorem sim_tTest {t : TE} {m : LE → M D} (h : SimE C W t m) : SimT C W (tTest t) (tOf m) := by
  intro env σ c Q hR hF
  refine h env σ c _ hR (Fn.bind hF fun x c1 e1 w1 hF1 v d1 => ?_)
  cases x with
  | bl b => exact ⟨b, d1, Fn.ok w1 hF1⟩
  | _ => exact hF1.elim
theorem st_cmp {op : CmpOp} {r : R2} {f : D → D → M D} {a b : Expr} {ma mb : LE → M D} {pos : Pos} (ho : OpR X (compareOp op) r) (hf : SimO C r f) (ha : SE X C W a ma) (hb : SE X C W b mb) (hm : behindInMarks op b = false := by first | exact nomark _ | rfl) : STe X C W (.Compare a [op] [b] pos) (tOf (eBin f ma mb)) := by
  obtain ⟨ta, pa, sa⟩ := ha.out
  obtain ⟨tb, pb, sb⟩ := hb.out
  exact ⟨_, pt_cmpR ho pa pb hm, sim_tTest (sim_op hf sa sb)⟩
theorem st_val {e : Expr} {m : LE → M D} (h : SE X C W e m) (he : ∀ whole, isTrue e X.env whole = (do let v ← whole; standAt e.pos; holding [v] (truthy v)) := by intro _; rfl) : STe X C W e (tOf m) := by
  obtain ⟨t, p, s⟩ := h.out
  exact ⟨_, pt_val p he, fun env σ c Q hR hF => sim_tTest s env σ c Q hR hF⟩
/-- a < b < c -/
def eChain (f g : D → D → M D) (ma mb mc : LE → M D) : LE → M D := fun env => ma env >>= fun x => mb env >>= fun y => f x y >>= fun z => asB z >>= fun b => if b = true then mc env >>= fun u => g y u else pure (.bl false)
theorem sim_chain {r r' : R2} {f g : D → D → M D} {ta tb tc : TE} {ma mb mc : LE → M D} (hf : SimO C r f) (hg : SimO C r' g) (sa : SimE C W ta ma) (sb : SimE C W tb mb) (sc : SimE C W tc mc) : SimE C W (tChain r r' ta tb tc) (eChain f g ma mb mc) := by
  intro env σ c Q hR hF
  refine sa env σ c _ hR (Fn.bind hF fun x c1 e1 w1 hF1 v d1 => ?_)
  refine sb env σ c1 _ (hR.ext e1 w1) (Fn.bind hF1 fun y c2 e2 w2 hF2 w d2 => ?_)
  refine hf c2 x y v w _ _ w2 (d1.mono e2.g e2.pre) d2 (Fn.bind hF2 fun z c3 e3 w3 hF3 zv d3 => ?_)
  cases z with
  | bl b =>
    refine ⟨b, d3, ?_⟩
    have hF4 : Fn C c3 ((if b = true then mc env >>= fun u => g y u else pure (.bl false)) c3.s) (KD C Q) (fun a b H => W a b σ H) := hF3
    cases b with
    | true =>
      refine iteT (sc env σ c3 _ (((hR.ext e1 w1).ext e2 w2).ext e3 w3) (Fn.bind hF4 fun u c4 e4 w4 hF5 uv d4 => ?_))
      exact hg c4 y u w uv Q _ w4 (d2.mono (e3.g.trans e4.g) (e3.pre.trans e4.pre)) d4 hF5
    | false => exact iteF (Fn.ok w3 hF4 _ rfl)
  | _ => exact hF3.elim
theorem se_chain {op op' : CmpOp} {r r' : R2} {f g : D → D → M D} {a b c : Expr} {ma mb mc : LE → M D} {pos : Pos} (ho : OpR X (compareOp op) r) (hf : SimO C r f) (ho' : OpR X (compareOp op') r') (hg : SimO C r' g) (ha : SE X C W a ma) (hb : SE X C W b mb) (hc : SE X C W c mc)
    (hm : lastMarks [op, op'] [b, c] = false := by with_unfolding_all rfl) : SE X C W (.Compare a [op, op'] [b, c] pos) (eChain f g ma mb mc) := by
  obtain ⟨ta, pa, sa⟩ := ha.out
  obtain ⟨tb, pb, sb⟩ := hb.out
  obtain ⟨tc, pc, sc⟩ := hc.out
  exact ⟨_, pe_chain ho ho' pa pb pc hm, sim_chain hf hg sa sb sc⟩
theorem st_chain {op op' : CmpOp} {r r' : R2} {f g : D → D → M D} {a b c : Expr} {ma mb mc : LE → M D} {pos : Pos} (ho : OpR X (compareOp op) r) (hf : SimO C r f) (ho' : OpR X (compareOp op') r') (hg : SimO C r' g) (ha : SE X C W a ma) (hb : SE X C W b mb) (hc : SE X C W c mc)
    (hm : lastMarks [op, op'] [b, c] = false := by with_unfolding_all rfl) : STe X C W (.Compare a [op, op'] [b, c] pos) (tOf (eChain f g ma mb mc)) := by
  obtain ⟨ta, pa, sa⟩ := ha.out
  obtain ⟨tb, pb, sb⟩ := hb.out
  obtain ⟨tc, pc, sc⟩ := hc.out
  exact ⟨_, pt_chain ho ho' pa pb pc hm, sim_tTest (sim_chain hf hg sa sb sc)⟩
/-! ### and, or, not, if -/
def tAndM (m n : LE → M Bool) : LE → M Bool := fun env => m env >>= fun b => if b = true then n env else pure false
def tOrM (m n : LE → M Bool) : LE → M Bool := fun env => m env >>= fun b => if b = true then pure true else n env
def tNotM (m : LE → M Bool) : LE → M Bool := fun env => m env >>= fun b => pure (!b)
theorem sim_tAnd {t u : TT} {m n : LE → M Bool} (h : SimT C W t m) (k : SimT C W u n) : SimT C W (tAnd t u) (tAndM m n) := by
  intro env σ c Q hR hF
  refine h env σ c _ hR (Fn.bind hF fun b c1 e1 w1 hF1 => ?_)
  cases b with
  | true => exact iteT (k env σ c1 _ (hR.ext e1 w1) hF1)
  | false => exact iteF (Fn.ok w1 hF1)
theorem sim_tOr {t u : TT} {m n : LE → M Bool} (h : SimT C W t m) (k : SimT C W u n) : SimT C W (tOr t u) (tOrM m n) := by
  intro env σ c Q hR hF
  refine h env σ c _ hR (Fn.bind hF fun b c1 e1 w1 hF1 => ?_)
  cases b with
  | true => exact iteT (Fn.ok w1 hF1)
  | false => exact iteF (k env σ c1 _ (hR.ext e1 w1) hF1)
theorem sim_tNot {t : TT} {m : LE → M Bool} (h : SimT C W t m) : SimT C W (tNot t) (tNotM m) := by
  intro env σ c Q hR hF
  refine h env σ c _ hR (Fn.bind hF fun b c1 e1 w1 hF1 => ?_)
  have q := Fn.ret w1 hF1
  exact q
theorem sw_and1 {a : Expr} {m : LE → M Bool} {pos : Pos} (h : STe X C W a m) : SW X C W (.BoolOp .And [a] pos) m := by
  obtain ⟨t, p, s⟩ := h.out
  exact ⟨_, pw_and1 p, s⟩
theorem sw_or1 {a : Expr} {m : LE → M Bool} {pos : Pos} (h : STe X C W a m) : SW X C W (.BoolOp .Or [a] pos) m := by
  obtain ⟨t, p, s⟩ := h.out
  exact ⟨_, pw_or1 p, s⟩
theorem sw_and {a b : Expr} {rest : List Expr} {m n : LE → M Bool} {pos : Pos} (h : STe X C W a m) (k : SW X C W (.BoolOp .And (b :: rest) pos) n) : SW X C W (.BoolOp .And (a :: b :: rest) pos) (tAndM m n) := by
  obtain ⟨t, p, s⟩ := h.out
  obtain ⟨t', p', s'⟩ := k.out
  exact ⟨_, pw_and p p', sim_tAnd s s'⟩
theorem sw_or {a b : Expr} {rest : List Expr} {m n : LE → M Bool} {pos : Pos} (h : STe X C W a m) (k : SW X C W (.BoolOp .Or (b :: rest) pos) n) : SW X C W (.BoolOp .Or (a :: b :: rest) pos) (tOrM m n) := by
  obtain ⟨t, p, s⟩ := h.out
  obtain ⟨t', p', s'⟩ := k.out
  exact ⟨_, pw_or p p', sim_tOr s s'⟩
theorem st_sw {e : Expr} {m : LE → M Bool} (h : SW X C W e m) : STe X C W e m := by
  obtain ⟨t, p, s⟩ := h.out
  exact ⟨_, p.pt, s⟩
theorem st_not {a : Expr} {m : LE → M Bool} {pos : Pos} (h : STe X C W a m) : STe X C W (.UnaryOp .Not a pos) (tNotM m) := by
  obtain ⟨t, p, s⟩ := h.out
  exact ⟨_, pt_not p, sim_tNot s⟩
def eAnd (m n : LE → M D) : LE → M D := fun env => m env >>= fun x => asB x >>= fun b => if b = true then n env else pure (.bl false)
def eOr (m n : LE → M D) : LE → M D := fun env => m env >>= fun x => asB x >>= fun b => if b = true then pure (.bl true) else n env
def eNot (m : LE → M D) : LE → M D := fun env => m env >>= fun x => asB x >>= fun b => pure (.bl (!b))
theorem sim_andV {t u : TE} {m n : LE → M D} (h : SimE C W t m) (k : SimE C W u n) : SimE C W (tAndV t u) (eAnd m n) := by
  intro env σ c Q hR hF
  refine h env σ c _ hR (Fn.bind hF fun x c1 e1 w1 hF1 v d1 => ?_)
  cases x with
  | bl b =>
    refine ⟨b, d1, ?_⟩
    cases b with
    | true => exact iteT (k env σ c1 _ (hR.ext e1 w1) hF1)
    | false => exact iteF (Fn.ok w1 hF1 _ rfl)
  | _ => exact False.elim hF1
theorem sim_orV {t u : TE} {m n : LE → M D} (h : SimE C W t m) (k : SimE C W u n) : SimE C W (tOrV t u) (eOr m n) := by
  intro env σ c Q hR hF
  refine h env σ c _ hR (Fn.bind hF fun x c1 e1 w1 hF1 v d1 => ?_)
  cases x with
  | bl b =>
    refine ⟨b, d1, ?_⟩
    cases b with
    | true => exact iteT (Fn.ok w1 hF1 _ rfl)
    | false => exact iteF (k env σ c1 _ (hR.ext e1 w1) hF1)
  | _ => exact False.elim hF1
theorem sim_notV {t : TE} {m : LE → M D} (h : SimE C W t m) : SimE C W (tNotV t) (eNot m) := by
  intro env σ c Q hR hF
  refine h env σ c _ hR (Fn.bind hF fun x c1 e1 w1 hF1 v d1 => ?_)
  cases x with
  | bl b => exact ⟨b, d1, Fn.ok w1 hF1 _ rfl⟩
  | _ => exact False.elim hF1
theorem se_one {op : BoolOp} {a : Expr} {m : LE → M D} {pos : Pos} (h : SE X C W a m) : SE X C W (.BoolOp op [a] pos) m := by
  obtain ⟨t, p, s⟩ := h.out
  exact ⟨_, pe_one p, s⟩
theorem se_and {a b : Expr} {rest : List Expr} {m n : LE → M D} {pos : Pos} (h : SE X C W a m) (k : SE X C W (.BoolOp .And (b :: rest) pos) n) : SE X C W (.BoolOp .And (a :: b :: rest) pos) (eAnd m n) := by
  obtain ⟨t, p, s⟩ := h.out
  obtain ⟨t', p', s'⟩ := k.out
  exact ⟨_, pe_and p p', sim_andV s s'⟩
theorem se_or {a b : Expr} {rest : List Expr} {m n : LE → M D} {pos : Pos} (h : SE X C W a m) (k : SE X C W (.BoolOp .Or (b :: rest) pos) n) : SE X C W (.BoolOp .Or (a :: b :: rest) pos) (eOr m n) := by
  obtain ⟨t, p, s⟩ := h.out
  obtain ⟨t', p', s'⟩ := k.out
  exact ⟨_, pe_or p p', sim_orV s s'⟩
theorem se_not {a : Expr} {m : LE → M D} {pos : Pos} (h : SE X C W a m) : SE X C W (.UnaryOp .Not a pos) (eNot m) := by
  obtain ⟨t, p, s⟩ := h.out
  exact ⟨_, pe_not p, sim_notV s⟩
def eIf (t : LE → M Bool) (m n : LE → M D) : LE → M D := fun env => t env >>= fun b => if b = true then m env else n env
theorem se_if {a b c : Expr} {t : LE → M Bool} {m n : LE → M D} {pos : Pos} (hc : STe X C W c t) (ha : SE X C W a m) (hb : SE X C W b n) : SE X C W (.IfExp c a b pos) (eIf t m n) := by
  obtain ⟨tc, pc, sc⟩ := hc.out
  obtain ⟨ta, pa, sa⟩ := ha.out
  obtain ⟨tb, pb, sb⟩ := hb.out
  refine ⟨_, pe_ifExp pc pa pb, fun env σ c Q hR hF => ?_⟩
  refine sc env σ c _ hR (Fn.bind hF fun b c1 e1 w1 hF1 => ?_)
  cases b with
  | true => exact iteT (sa env σ c1 _ (hR.ext e1 w1) hF1)
  | false => exact iteF (sb env σ c1 _ (hR.ext e1 w1) hF1)
def nIf (t : LE → M Bool) (m n : LE → M O) : LE → M O := fun env => t env >>= fun b => if b = true then m env else n env

/-! ### arguments, displays -/
def aNil : LE → M (List D) := fun _ => pure []
def aCons (m : LE → M D) (n : LE → M (List D)) : LE → M (List D) := fun env => m env >>= fun x => n env >>= fun r => pure (x :: r)
theorem sa_nil : SA X C W [] aNil := ⟨_, pa_nil, fun env σ c Q hR hF => Fn.ok hR.wf hF _ DenL.nil⟩
theorem sa_cons {e : Expr} {es : List Expr} {m : LE → M D} {n : LE → M (List D)} (h : SE X C W e m) (k : SA X C W es n) (hs : starEach (e :: es) X.env = (false, eval e X.env) :: starEach es X.env := by rfl) : SA X C W (e :: es) (aCons m n) := by
  obtain ⟨t, p, s⟩ := h.out
  obtain ⟨t', p', s'⟩ := k.out
  refine ⟨_, pa_cons p p' hs, fun env σ c Q hR hF => ?_⟩
  refine s env σ c _ hR (Fn.bind hF fun x c1 e1 w1 hF1 v d1 => ?_)
  refine s' env σ c1 _ (hR.ext e1 w1) (Fn.bind hF1 fun ds c2 e2 w2 hF2 vs d2 => ?_)
  exact Fn.ok w2 hF2 _ (.cons (d1.mono e2.g e2.pre) d2)
def szOk (n : Nat) : Bool := decide (n ≤ 1000000)
theorem szOk_line {n : Nat} (h : szOk n = true) : n ≤ sizeLine := Nat.le_trans (of_decide_eq_true h) (by decide)
theorem szOk_lt {n : Nat} (h : szOk n = true) : n < sizeLine := Nat.lt_of_le_of_lt (of_decide_eq_true h) (by decide)
def guardM (b : Bool) : M Unit := if b = true then pure () else mStuck
theorem Fn.guard {c : Cf} {α : Type} {b : Bool} {f : Unit → M α} {K : α → Cf → Prop} {E : XK} (h : Fn C c ((guardM b >>= f) c.s) K E) : b = true ∧ Fn C c (f () c.s) K E := by
  cases b with
  | true => exact ⟨rfl, h⟩
  | false => exact False.elim h
def eTup (m : LE → M (List D)) : LE → M D := fun env => m env >>= fun ds => guardM (szOk ds.length) >>= fun _ => pure (.tup ds)
theorem se_tup {es : List Expr} {m : LE → M (List D)} {x1} {pos : Pos} (h : SA X C W es m) : SE X C W (.Tuple es x1 pos) (eTup m) := by
  obtain ⟨t, p, s⟩ := h.out
  refine ⟨_, pe_tup p, fun env σ c Q hR hF => ?_⟩
  refine s env σ c _ hR (Fn.bind hF fun ds c1 e1 w1 hF1 vs d1 => ?_)
  obtain ⟨hz, hF2⟩ := Fn.guard hF1
  refine ⟨by rw [d1.length]; exact szOk_line hz, fun p hp => ?_⟩
  obtain ⟨w2, e2⟩ := lay_frozen (o := .tup vs) w1 hp
  have hF3 := Fn.ok w2 (Fn.mono e2 hF2)
  exact hF3 _ ⟨p, vs, rfl, SqT.of upd_same, d1.mono e2.g e2.pre⟩
def nLst (m : LE → M (List D)) : LE → M O := fun env => m env >>= fun ds => guardM (szOk ds.length) >>= fun _ => pure (.lst ds)
theorem New.of {c0 c : Cf} {p : Addr} {o : HO} {u : O} (e : Ext c0 c) (w : WF C c) (hp : c.H p = none) (h : OR C c.G c.ρ u p o) : New C c0 ⟨upd c.H p o, c.G, c.ρ, c.s⟩ u p :=
  ⟨e.free hp, w.gfree hp, w.rfree hp, ⟨o, upd_same, h⟩⟩
theorem sn_lst {es : List Expr} {m : LE → M (List D)} {pos : Pos} (h : SA X C W es m) : SN X C W (.List es pos) (nLst m) := by
  obtain ⟨t, p, s⟩ := h.out
  refine ⟨_, pe_lst p, fun env σ c Q hR hF => ?_⟩
  refine s env σ c _ hR (Fn.bind hF fun ds c1 e1 w1 hF1 vs d1 => ?_)
  obtain ⟨hz, hF2⟩ := Fn.guard hF1
  refine ⟨by rw [d1.length]; exact szOk_line hz, fun p hp => ?_⟩
  obtain ⟨w2, e2⟩ := lay_new (o := .lst vs) w1 hp
  exact Fn.ok w2 (Fn.mono e2 hF2) p (.of e1 w1 hp ⟨vs, rfl, d1⟩)
/-- a new container, frozen at once -/
def O.dat : O → M D
  | .lst ds => pure (.lst ds)
  | .dct kvs => pure (.dct kvs)
  | .ins _ _ => mStuck
def eFrz (m : LE → M O) : LE → M D := fun env => m env >>= O.dat
theorem New.frz {c0 c : Cf} {p : Addr} {u : O} (e : Ext c0 c) (w : WF C c) (n : New C c0 c u p) : ∃ ho, c.H p = some ho ∧ OR C c.G c.ρ u p ho ∧ WF C ⟨c.H, upd c.G p ho, c.ρ, c.s⟩ ∧ Ext c0 ⟨c.H, upd c.G p ho, c.ρ, c.s⟩ ∧ Gr c.G (upd c.G p ho) := by
  obtain ⟨ho, h1, h2⟩ := n.at'
  obtain ⟨w2, g2⟩ := freeze w h1 n.g n.r
  refine ⟨ho, h1, h2, w2, ⟨e.g.trans g2, fun a g d => ?_, e.kp, e.dom, e.pr⟩, g2⟩
  have na : a ≠ p := fun z => by subst z; exact d n.fresh
  show upd c.G p ho a = none
  rw [upd_ne na]
  exact e.fr a g d
theorem se_frz {e : Expr} {m : LE → M O} (h : SN X C W e m) : SE X C W e (eFrz m) := by
  obtain ⟨t, p, s⟩ := h.out
  refine ⟨t, p, fun env σ c Q hR hF => ?_⟩
  refine s env σ c _ hR (Fn.bind0 hF fun o c1 e1 w1 hF1 p n => ?_)
  obtain ⟨ho, h1, h2, w2, e2, g2⟩ := n.frz e1 w1
  cases o with
  | lst ds =>
    obtain ⟨vs, rfl, l⟩ := h2
    exact hF1 ⟨c1.H, upd c1.G p (.lst vs), c1.ρ, c1.s⟩ rfl e2 w2 _ ⟨p, vs, rfl, upd_same, l.mono g2 (Pre.refl _)⟩
  | dct kvs =>
    obtain ⟨vs, rfl, l⟩ := h2
    exact hF1 ⟨c1.H, upd c1.G p (.dK vs), c1.ρ, c1.s⟩ rfl e2 w2 _ ⟨p, vs, rfl, upd_same, l.mono g2 (Pre.refl _)⟩
  | ins a b => exact False.elim hF1
end
end DL
set_option Elab.async false
set_option linter.all false
set_option maxRecDepth 100000
set_option maxHeartbeats 2000000
/-! # Operators and built-ins by values -/
namespace DL
open PySem L2
section
variable {X : Cx} {C : Ct} {W : WX}
/-! ### whole numbers -/
def oI (g : Int → Int → Int) : D → D → M D
  | .int i, .int j => pure (.int (g i j))
  | _, _ => mStuck
def oIg (P : Int → Int → Bool) (g : Int → Int → Int) : D → D → M D
  | .int i, .int j => guardM (P i j) >>= fun _ => pure (.int (g i j))
  | _, _ => mStuck
def oC (g : Int → Int → Bool) : D → D → M D
  | .int i, .int j => pure (.bl (g i j))
  | _, _ => mStuck
theorem simI {g : Int → Int → Int} : SimO C (rI0 fun i j => .int (g i j)) (oI g) := by
  intro c x y v w Q E wf dx dy hF
  cases x <;> cases y <;> first | exact False.elim hF | skip
  exact ⟨_, _, dx, dy, Fn.ok wf hF _ rfl⟩
theorem simIg {P : Int → Int → Bool} {R : Int → Int → Prop} {g : Int → Int → Int} (h : ∀ i j, P i j = true → R i j) : SimO C (rI R fun i j => .int (g i j)) (oIg P g) := by
  intro c x y v w Q E wf dx dy hF
  cases x <;> cases y <;> first | exact False.elim hF | skip
  obtain ⟨hp, hF2⟩ := Fn.guard hF
  exact ⟨_, _, dx, dy, h _ _ hp, Fn.ok wf hF2 _ rfl⟩
theorem simC {g : Int → Int → Bool} : SimO C (rI0 fun i j => .bl (g i j)) (oC g) := by
  intro c x y v w Q E wf dx dy hF
  cases x <;> cases y <;> first | exact False.elim hF | skip
  exact ⟨_, _, dx, dy, Fn.ok wf hF _ rfl⟩
def oSub : D → D → M D := oI fun i j => i - j
def mulOk (i j : Int) : Bool := (decide (-(2 ^ 64) < i) && decide (i < 2 ^ 64)) || (decide (-(2 ^ 64) < j) && decide (j < 2 ^ 64))
def oMul : D → D → M D := oIg mulOk fun i j => i * j
def divOk (_ j : Int) : Bool := decide (0 < j) && decide (j < 2 ^ 64)
def oDiv : D → D → M D := oIg divOk fun i j => i / j
def oMod : D → D → M D := oIg (fun _ j => decide (0 < j)) fun i j => i % j
def powOk (i j : Int) : Bool := decide (0 ≤ j) && decide (j ≤ 1000) && decide (i.natAbs < 2 ^ 64)
def oPow : D → D → M D := oIg powOk fun i j => i ^ j.toNat
theorem s_sub : SimO C (rI0 fun i j => .int (i - j)) oSub := simI
theorem s_mul : SimO C (rI CMul fun i j => .int (i * j)) oMul := simIg fun i j h => by
  unfold mulOk at h
  rw [Bool.or_eq_true, Bool.and_eq_true, Bool.and_eq_true] at h
  rcases h with ⟨a, b⟩ | ⟨a, b⟩
  · exact .inl ⟨of_decide_eq_true a, of_decide_eq_true b⟩
  · exact .inr ⟨of_decide_eq_true a, of_decide_eq_true b⟩
theorem s_div : SimO C (rI CDivW fun i j => .int (i / j)) oDiv := simIg fun i j h => by
  unfold divOk at h
  rw [Bool.and_eq_true] at h
  have h1 : 0 < j := of_decide_eq_true h.1
  have h2 : j < 2 ^ 64 := of_decide_eq_true h.2
  refine wide_div (b := 64) h1 ?_ (by decide) (by decide)
  have : ((j.natAbs : Nat) : Int) < 2 ^ 64 := by omega
  exact_mod_cast this
theorem s_mod : SimO C (rI (fun _ j => 0 < j) fun i j => .int (i % j)) oMod := simIg fun i j h => of_decide_eq_true h
theorem s_pow : SimO C (rI CPow fun i j => .int (i ^ j.toNat)) oPow := simIg fun i j h => by
  unfold powOk at h
  rw [Bool.and_eq_true, Bool.and_eq_true] at h
  exact ⟨of_decide_eq_true h.1.1, Int.le_trans (of_decide_eq_true h.1.2) (by decide), of_decide_eq_true h.2⟩

/-! ### + of anything -/
def oAdd : D → D → M D
  | .int i, .int j => pure (.int (i + j))
  | .str a, .str b => guardM (szOk (a.length + b.length)) >>= fun _ => pure (.str (a ++ b))
  | .lst a, .lst b => guardM (szOk (a.length + b.length)) >>= fun _ => pure (.lst (a ++ b))
  | .tup a, .tup b => guardM (szOk (a.length + b.length)) >>= fun _ => pure (.tup (a ++ b))
  | _, _ => mStuck
def rAddU (K : PySem.W.Frag) : R2 := fun x y H Q => (rI0 fun i j => .int (i + j)) x y H Q ∨ (∃ i j, x = .str i ∧ y = .str j ∧ i.length + j.length ≤ sizeLine ∧ Q (.str (i ++ j)) H) ∨ rCat x y H Q ∨ rCatA K x y H Q
theorem op_addU : OpR X (binaryOp .Add) (rAddU X.K) := op_add.or (op_add_str.or (op_cat.or op_catA))
theorem s_add : SimO C (rAddU C.K) oAdd := by
  intro c x y v w Q E wf dx dy hF
  cases x <;> cases y <;> first | exact False.elim hF | skip
  · exact .inl ⟨_, _, dx, dy, Fn.ok wf hF _ rfl⟩
  · obtain ⟨hz, hF2⟩ := Fn.guard hF
    exact .inr (.inl ⟨_, _, dx, dy, szOk_line hz, Fn.ok wf hF2 _ rfl⟩)
  · obtain ⟨hz, hF2⟩ := Fn.guard hF
    refine .inr (.inr (.inr ?_))
    obtain ⟨a, vs, rfl, ha, la⟩ := dx
    obtain ⟨b, ws, rfl, hb, lb⟩ := dy
    refine ⟨a, b, vs, ws, rfl, rfl, wf.ext.sqt ha, wf.ext.sqt hb, by rw [la.length, lb.length]; exact szOk_line hz, fun e => ?_, fun _ e => ?_, fun _ _ p hp => ?_⟩
    · subst e
      refine Fn.ok wf hF2 _ ⟨b, ws, rfl, hb, ?_⟩
      have := la.append lb
      exact this
    · subst e
      refine Fn.ok wf hF2 _ ⟨a, vs, rfl, ha, ?_⟩
      have := la.append lb
      rw [List.append_nil] at this
      exact this
    · obtain ⟨w2, e2⟩ := lay_frozen (o := .tup (vs ++ ws)) wf hp
      exact Fn.ok w2 (Fn.mono e2 hF2) _ ⟨p, _, rfl, SqT.of upd_same, (la.append lb).mono e2.g e2.pre⟩
  · obtain ⟨hz, hF2⟩ := Fn.guard hF
    refine .inr (.inr (.inl ?_))
    obtain ⟨a, vs, rfl, ha, la⟩ := dx
    obtain ⟨b, ws, rfl, hb, lb⟩ := dy
    refine ⟨a, b, vs, ws, rfl, rfl, wf.ext _ _ ha, wf.ext _ _ hb, by rw [la.length, lb.length]; exact szOk_line hz, fun p hp => ?_⟩
    obtain ⟨w2, e2⟩ := lay_frozen (o := .lst (vs ++ ws)) wf hp
    exact Fn.ok w2 (Fn.mono e2 hF2) _ ⟨p, _, rfl, upd_same, (la.append lb).mono e2.g e2.pre⟩

/-! ### order -/
def cpsLt (a b : Str) : Bool := decide (a.cps.toList < b.cps.toList)
def oLt : D → D → M D
  | .int i, .int j => pure (.bl (decide (i < j)))
  | .str a, .str b => pure (.bl (cpsLt a b))
  | _, _ => mStuck
def rLtU : R2 := fun x y H Q => (rI0 fun i j => .bl (decide (i < j))) x y H Q ∨ ∃ i j, x = .str i ∧ y = .str j ∧ Q (.bl (decide (i.cps.toList < j.cps.toList))) H
theorem op_ltU : OpR X (compareOp .Lt) rLtU := op_lt.or op_lt_str
theorem s_lt : SimO C rLtU oLt := by
  intro c x y v w Q E wf dx dy hF
  cases x <;> cases y <;> first | exact False.elim hF | skip
  · exact .inl ⟨_, _, dx, dy, Fn.ok wf hF _ rfl⟩
  · exact .inr ⟨_, _, dx, dy, Fn.ok wf hF _ rfl⟩
def oLe : D → D → M D := oC fun i j => decide (i ≤ j)
def oGt : D → D → M D := oC fun i j => decide (j < i)
def oGe : D → D → M D := oC fun i j => decide (j ≤ i)
theorem s_le : SimO C (rI0 fun i j => .bl (decide (i ≤ j))) oLe := simC
theorem s_gt : SimO C (rI0 fun i j => .bl (decide (j < i))) oGt := simC
theorem s_ge : SimO C (rI0 fun i j => .bl (decide (j ≤ i))) oGe := simC

/-! ### equality -/
mutual
def D.py : D → Option PyData
  | .non => some .none
  | .bl b => some (.bool b)
  | .int i => some (.int i)
  | .str s => some (.str s)
  | .tup ds => (pyL ds).map .tuple
  | .lst ds => (pyL ds).map .list
  | .scr ns => some (.list (ns.map .int))
  | _ => none
def pyL : List D → Option (List PyData)
  | [] => some []
  | d :: ds => match d.py, pyL ds with
    | some p, some ps => some (p :: ps)
    | _, _ => none
end
theorem dpInts {K : PySem.W.Frag} {H : Hp} : ∀ ns : List Int, DpAll K H (ns.map V.int) (ns.map PyData.int)
  | [] => .nil
  | n :: ns => .cons (.int n) (dpInts ns)
mutual
theorem Den.dp {G H : Hp} {ρ : List Addr} (hG : Gr G H) : ∀ (d : D) (v : V) (p : PyData), Den C G ρ d v → d.py = some p → Dp C.K H v p
  | .non, v, p, h, e => by simp only [D.py, Option.some.injEq] at e; subst e; simp only [Den] at h; subst h; exact .non
  | .bl b, v, p, h, e => by simp only [D.py, Option.some.injEq] at e; subst e; simp only [Den] at h; subst h; exact .bl b
  | .int b, v, p, h, e => by simp only [D.py, Option.some.injEq] at e; subst e; simp only [Den] at h; subst h; exact .int b
  | .str b, v, p, h, e => by simp only [D.py, Option.some.injEq] at e; subst e; simp only [Den] at h; subst h; exact .str b
  | .tup ds, v, p, h, e => by
    simp only [D.py, Option.map_eq_some_iff] at e
    obtain ⟨ps, e, rfl⟩ := e
    simp only [Den] at h
    obtain ⟨a, vs, rfl, s, l⟩ := h
    exact .tup (hG.sqt s) (DenL.dp hG ds vs ps l e)
  | .lst ds, v, p, h, e => by
    simp only [D.py, Option.map_eq_some_iff] at e
    obtain ⟨ps, e, rfl⟩ := e
    simp only [Den] at h
    obtain ⟨a, vs, rfl, s, l⟩ := h
    exact .lst (SqL.of (hG _ _ s)) (DenL.dp hG ds vs ps l e)
  | .scr ns, v, p, h, e => by
    simp only [D.py, Option.some.injEq] at e
    subst e
    simp only [Den] at h
    obtain ⟨a, rfl, s⟩ := h
    exact .lst (hG.sql s) (dpInts ns)
  | .dct _, v, p, h, e => by simp [D.py] at e
  | .loc _, v, p, h, e => by simp [D.py] at e
  | .ob _, v, p, h, e => by simp [D.py] at e
theorem DenL.dp {G H : Hp} {ρ : List Addr} (hG : Gr G H) : ∀ (ds : List D) (vs : List V) (ps : List PyData), DenL C G ρ ds vs → pyL ds = some ps → DpAll C.K H vs ps
  | [], vs, ps, h, e => by simp only [pyL, Option.some.injEq] at e; subst e; simp only [DenL] at h; subst h; exact .nil
  | d :: ds, vs, ps, h, e => by
    simp only [DenL] at h
    obtain ⟨v, r, rfl, h1, h2⟩ := h
    simp only [pyL] at e
    cases e1 : d.py with
    | none => rw [e1] at e; simp at e
    | some p =>
      cases e2 : pyL ds with
      | none => rw [e1, e2] at e; simp at e
      | some qs =>
        rw [e1, e2] at e
        simp only [Option.some.injEq] at e
        subst e
        exact .cons (Den.dp hG d v p h1 e1) (DenL.dp hG ds r qs h2 e2)
end
/-- the answer of ==, where it is told -/
def leafEq : D → D → Option Bool
  | .int i, .int j => some (decide (i = j))
  | .str a, .str b => some (decide (a = b))
  | .bl a, .bl b => some (a == b)
  | .non, .non => some true
  | .non, .int _ | .int _, .non | .non, .bl _ | .bl _, .non | .non, .str _ | .str _, .non | .int _, .str _ | .str _, .int _ | .bl _, .str _ | .str _, .bl _ => some false
  | _, _ => none
def deepEq (x y : D) : Option Bool := match x.py, y.py with
  | some p, some q => if SeqAt.shaped p && SeqAt.shaped q then some (PyData.eqv p q) else none
  | _, _ => none
def eqD? (x y : D) : Option Bool := match leafEq x y with
  | some b => some b
  | none => deepEq x y
def optM {α : Type} : Option α → M α
  | some a => pure a
  | none => mStuck
def oEq (x y : D) : M D := optM (eqD? x y) >>= fun b => pure (.bl b)
def oNe (x y : D) : M D := optM (eqD? x y) >>= fun b => pure (.bl (!b))
theorem deep_py {x y : D} {b : Bool} (h : deepEq x y = some b) : ∃ p q, x.py = some p ∧ y.py = some q ∧ SeqAt.shaped p = true ∧ SeqAt.shaped q = true ∧ PyData.eqv p q = b := by
  unfold deepEq at h
  cases e1 : x.py with
  | none => rw [e1] at h; simp at h
  | some p =>
    cases e2 : y.py with
    | none => rw [e1, e2] at h; simp at h
    | some q =>
      rw [e1, e2] at h
      simp only at h
      split at h
      · rename_i hs
        rw [Bool.and_eq_true] at hs
        exact ⟨p, q, rfl, rfl, hs.1, hs.2, Option.some.inj h⟩
      · cases h
theorem leaf_scal {G : Hp} {ρ : List Addr} {x y : D} {v w : V} {b : Bool} (dx : Den C G ρ x v) (dy : Den C G ρ y w) (h : leafEq x y = some b) : scal v w = true ∧ decide (v = w) = b := by
  cases x <;> cases y <;> first
    | (simp only [leafEq] at h; cases h; done)
    | (simp only [Den] at dx dy; subst dx dy; simp only [leafEq, Option.some.injEq] at h; subst h; refine ⟨rfl, ?_⟩; first | rfl | (rw [dec_bl]; done) | simp)
theorem Fn.optM {c : Cf} {α β : Type} {o : Option α} {f : α → M β} {K : β → Cf → Prop} {E : XK} (h : Fn C c ((optM o >>= f) c.s) K E) : ∃ a, o = some a ∧ Fn C c (f a c.s) K E := by
  cases o with
  | some a => exact ⟨a, rfl, h⟩
  | none => exact False.elim h
def rEqU (K : PySem.W.Frag) : R2 := fun x y H Q => rEq x y H Q ∨ rEqD K x y H Q
def rNeU (K : PySem.W.Frag) : R2 := fun x y H Q => rNe x y H Q ∨ rNeD K x y H Q
theorem op_eqU (hu : X.A.units + 64 < cLine) : OpR X (compareOp .Eq) (rEqU X.K) := op_eq.or (op_eqD hu)
theorem op_neU (hu : X.A.units + 64 < cLine) : OpR X (compareOp .NotEq) (rNeU X.K) := op_ne.or (op_neD hu)
theorem s_eq : SimO C (rEqU C.K) oEq := by
  intro c x y v w Q E wf dx dy hF
  obtain ⟨b, hb, hF2⟩ := Fn.optM hF
  unfold eqD? at hb
  cases e : leafEq x y with
  | some b' =>
    rw [e] at hb
    cases hb
    obtain ⟨h1, h2⟩ := leaf_scal dx dy e
    refine .inl ⟨h1, ?_⟩
    rw [h2]
    exact Fn.ok wf hF2 _ rfl
  | none =>
    rw [e] at hb
    obtain ⟨p, q, e1, e2, s1, s2, e3⟩ := deep_py hb
    refine .inr ⟨p, q, dx.dp wf.ext _ _ _ e1, dy.dp wf.ext _ _ _ e2, s1, s2, ?_⟩
    rw [e3]
    exact Fn.ok wf hF2 _ rfl
theorem s_ne : SimO C (rNeU C.K) oNe := by
  intro c x y v w Q E wf dx dy hF
  obtain ⟨b, hb, hF2⟩ := Fn.optM hF
  unfold eqD? at hb
  cases e : leafEq x y with
  | some b' =>
    rw [e] at hb
    cases hb
    obtain ⟨h1, h2⟩ := leaf_scal dx dy e
    refine .inl ⟨h1, ?_⟩
    rw [h2]
    exact Fn.ok wf hF2 _ rfl
  | none =>
    rw [e] at hb
    obtain ⟨p, q, e1, e2, s1, s2, e3⟩ := deep_py hb
    refine .inr ⟨p, q, dx.dp wf.ext _ _ _ e1, dy.dp wf.ext _ _ _ e2, s1, s2, ?_⟩
    rw [e3]
    exact Fn.ok wf hF2 _ rfl
def D.isNon : D → Bool
  | .non => true
  | _ => false
def oIs (x y : D) : M D := match y with
  | .non => pure (.bl x.isNon)
  | _ => mStuck
def oIsNot (x y : D) : M D := match y with
  | .non => pure (.bl (!x.isNon))
  | _ => mStuck
def D.noOb : D → Bool
  | .ob _ => false
  | _ => true
theorem Den.non_iff {G : Hp} {ρ : List Addr} {x : D} {v : V} (h : Den C G ρ x v) (n : x.noOb = true) : decide (v = .non) = x.isNon := by
  cases x with
  | non => simp only [Den] at h; subst h; rfl
  | bl b => simp only [Den] at h; subst h; rfl
  | int b => simp only [Den] at h; subst h; rfl
  | str b => simp only [Den] at h; subst h; rfl
  | tup b => obtain ⟨a, vs, rfl, _⟩ := h; rfl
  | lst b => obtain ⟨a, vs, rfl, _⟩ := h; rfl
  | dct b => obtain ⟨a, vs, rfl, _⟩ := h; rfl
  | scr b => obtain ⟨a, rfl, _⟩ := h; rfl
  | loc b => obtain ⟨a, rfl, _⟩ := h; rfl
  | ob b => cases n
  | cls b => simp only [Den] at h; subst h; rfl
  | exn b fs => obtain ⟨a, dx, gs, rfl, _⟩ := h; rfl
theorem s_is : SimO C (fun x y H Q => y = .non ∧ Q (.bl (decide (x = .non))) H) (fun x y => if x.noOb then oIs x y else mStuck) := by
  intro c x y v w Q E wf dx dy hF
  cases e : x.noOb with
  | false => simp only [e] at hF; exact False.elim hF
  | true =>
    simp only [e, if_true] at hF
    cases y <;> first | exact False.elim hF | skip
    refine ⟨dy, ?_⟩
    rw [dx.non_iff e]
    exact Fn.ok wf hF _ rfl
theorem s_isnot : SimO C (fun x y H Q => y = .non ∧ Q (.bl (!decide (x = .non))) H) (fun x y => if x.noOb then oIsNot x y else mStuck) := by
  intro c x y v w Q E wf dx dy hF
  cases e : x.noOb with
  | false => simp only [e] at hF; exact False.elim hF
  | true =>
    simp only [e, if_true] at hF
    cases y <;> first | exact False.elim hF | skip
    refine ⟨dy, ?_⟩
    rw [dx.non_iff e]
    exact Fn.ok wf hF _ rfl
end
end DL
set_option Elab.async false
set_option linter.all false
set_option maxRecDepth 100000
set_option maxHeartbeats 2000000
/-! # Statements -/
namespace DL
open PySem L2
/-- how a statement ends -/
inductive Fl where
  | nx (env : LE) | rt (d : D) | bk (env : LE) | ct (env : LE) | xc (k : XC) (fs : List (Str × D)) (env : LE)
abbrev SR := Option (Fl × S)
abbrev SM := LE → S → SR

/-- slots and cells, since the entry c0 -/
structure RlS (C : Ct) (c0 : Cf) (env : LE) (σ : St) (c : Cf) : Prop where
  rl : Rl C env σ c
  ext : Ext c0 c
  mine : ∀ (i : Nat) (o : O) (a : Addr), env[i]? = some (some (.own o)) → σ[i]? = some (some (.ref a)) → c0.H a = none
theorem RlS.step {C : Ct} {c0 : Cf} {env : LE} {σ : St} {c c' : Cf} (h : RlS C c0 env σ c) (e : Ext c c') (w : WF C c') : RlS C c0 env σ c' := ⟨h.rl.ext e w, h.ext.trans e, h.mine⟩

/-- since b: what was frozen stays -/
structure Since (b c : Cf) : Prop where
  g : Gr b.G c.G
  r : Pre b.ρ c.ρ
theorem Since.refl (c : Cf) : Since c c := ⟨Gr.refl _, Pre.refl _⟩
theorem Since.trans {a b c : Cf} (h : Since a b) (k : Since b c) : Since a c := ⟨h.g.trans k.g, h.r.trans k.r⟩
theorem Ext.since {a b : Cf} (h : Ext a b) : Since a b := ⟨h.g, h.pre⟩
def FS (C : Ct) (c0 b : Cf) (W : WX) (E : Ends) (r : SR) : Prop := match r with
  | none => False
  | some (.nx env, s) => ∀ σ c, c.s = s → RlS C c0 env σ c → Since b c → E.nx σ c.H
  | some (.rt d, s) => ∀ v c, c.s = s → Ext c0 c → WF C c → Den C c.G c.ρ d v → E.rt v c.H
  | some (.bk env, s) => ∀ σ c, c.s = s → RlS C c0 env σ c → Since b c → E.bk σ c.H
  | some (.ct env, s) => ∀ σ c, c.s = s → RlS C c0 env σ c → Since b c → E.ct σ c.H
  | some (.xc (.own k) fs env, s) => ∀ σ c dx gs, c.s = s → RlS C c0 env σ c → Since b c → c.G dx = some (.xd gs) → DenF C c.G c.ρ fs gs → W (.ref (C.ca k)) (some dx) σ c.H
  | some (.xc (.bi n) fs env, s) => ∀ σ c, c.s = s → RlS C c0 env σ c → Since b c → W (.type n) none σ c.H
theorem FS.mono {C : Ct} {c0 b b' : Cf} {W : WX} {E : Ends} {r : SR} (x : Since b b') (h : FS C c0 b W E r) : FS C c0 b' W E r := by
  cases r with
  | none => exact h
  | some p =>
    obtain ⟨f, s⟩ := p
    cases f with
    | nx env => exact fun σ c q R y => h σ c q R (x.trans y)
    | rt d => exact h
    | bk env => exact fun σ c q R y => h σ c q R (x.trans y)
    | ct env => exact fun σ c q R y => h σ c q R (x.trans y)
    | xc k fs env =>
      cases k with
      | own k => exact fun σ c dx gs q R y => h σ c dx gs q R (x.trans y)
      | bi n => exact fun σ c q R y => h σ c q R (x.trans y)
def SimS (C : Ct) (c0 : Cf) (W : WX) (t : TS) (m : SM) : Prop :=
  ∀ env σ c E, RlS C c0 env σ c → FS C c0 c W E (m env c.s) → t E σ c.H
structure SS1 (X : Cx) (C : Ct) (c0 : Cf) (W : WX) (st : Stmt) (m : SM) : Prop where
  out : ∃ t, PS X st t ∧ SimS C c0 W t m
structure SS (X : Cx) (C : Ct) (c0 : Cf) (W : WX) (st : List Stmt) (m : SM) : Prop where
  out : ∃ t, PSs X st t ∧ SimS C c0 W t m

/-- an expression's value, then the rest -/
def sE {α : Type} (m : LE → M α) (k : α → SM) : SM := fun env s => match m env s with
  | .ok d s' => k d env s'
  | .exc x fs s' => some (.xc x fs env, s')
  | .stuck => none
section
variable {X : Cx} {C : Ct} {c0 : Cf} {W : WX}
theorem FS.fn {α : Type} {m : LE → M α} {k : α → SM} {env : LE} {σ : St} {c : Cf} {E : Ends} {K : α → Cf → Prop} (hR : RlS C c0 env σ c) (hF : FS C c0 c W E (sE m k env c.s))
    (h : ∀ a c', Ext c c' → WF C c' → RlS C c0 env σ c' → FS C c0 c' W E (k a env c'.s) → K a c') : Fn C c (m env c.s) K (fun a b H => W a b σ H) := by
  unfold sE at hF
  cases e : m env c.s with
  | ok d s' =>
    rw [e] at hF
    intro c' q x w
    exact h d c' x w (hR.step x w) (by rw [q]; exact hF.mono x.since)
  | exc x fs s' =>
    rw [e] at hF
    cases x with
    | own k => exact fun c' dx gs q x w hd hf => hF σ c' dx gs q (hR.step x w) x.since hd hf
    | bi n => exact fun c' q x w => hF σ c' q (hR.step x w) x.since
  | stuck => rw [e] at hF; exact False.elim hF

/-! ### small statements -/
def sSeq (m n : SM) : SM := fun env s => match m env s with
  | some (.nx env', s') => n env' s'
  | r => r
def sNext : SM := fun env s => some (.nx env, s)
theorem sim_seq {t u : TS} {m n : SM} (h : SimS C c0 W t m) (k : SimS C c0 W u n) : SimS C c0 W (tSeq t u) (sSeq m n) := by
  intro env σ c E hR hF
  refine h env σ c _ hR ?_
  unfold sSeq at hF
  cases e : m env c.s with
  | none => rw [e] at hF; exact hF
  | some r =>
    obtain ⟨f, s'⟩ := r
    rw [e] at hF
    cases f with
    | nx env' =>
      intro σ' c' q hR' y
      exact k env' σ' c' E hR' (by rw [q]; exact FS.mono y hF)
    | rt d => exact hF
    | bk env' => exact hF
    | ct env' => exact hF
    | xc x fs env' => cases x <;> exact hF
theorem ss_nil : SS X C c0 W [] sNext := ⟨_, pss_nil, fun env σ c E hR hF => hF σ c rfl hR (Since.refl _)⟩
theorem ss_cons {st : Stmt} {rest : List Stmt} {m n : SM} (h : SS1 X C c0 W st m) (k : SS X C c0 W rest n) : SS X C c0 W (st :: rest) (sSeq m n) := by
  obtain ⟨t, p, s⟩ := h.out
  obtain ⟨t', p', s'⟩ := k.out
  exact ⟨_, pss_cons p p', sim_seq s s'⟩
theorem ss_one {st : Stmt} {m : SM} (h : SS1 X C c0 W st m) : SS X C c0 W [st] m := by
  obtain ⟨t, p, s⟩ := h.out
  exact ⟨_, pss_one p, s⟩
theorem s1_pass {pos : Pos} : SS1 X C c0 W (.Pass pos) sNext := ⟨_, ps_pass, fun env σ c E hR hF => hF σ c rfl hR (Since.refl _)⟩
def sBrk : SM := fun env s => some (.bk env, s)
def sCnt : SM := fun env s => some (.ct env, s)
theorem s1_break {pos : Pos} : SS1 X C c0 W (.Break pos) sBrk := ⟨_, ps_break, fun env σ c E hR hF => hF σ c rfl hR (Since.refl _)⟩
theorem s1_continue {pos : Pos} : SS1 X C c0 W (.Continue pos) sCnt := ⟨_, ps_continue, fun env σ c E hR hF => hF σ c rfl hR (Since.refl _)⟩
/-- a statement that no walk comes to -/
theorem s1_never {st : Stmt} : SS1 X C c0 W st (fun _ _ => none) := ⟨_, ps_never, fun env σ c E hR hF => hF⟩
theorem ss_never {st : List Stmt} : SS X C c0 W st (fun _ _ => none) := ⟨_, pss_never, fun env σ c E hR hF => hF⟩
def sExpr (m : LE → M D) : SM := sE m fun _ => sNext
theorem s1_expr {e : Expr} {m : LE → M D} {pos : Pos} (h : SE X C W e m) (hs : swapsWith e none pos.line X.env = pure false := by rfl) : SS1 X C c0 W (.Expr e pos) (sExpr m) := by
  obtain ⟨t, p, s⟩ := h.out
  exact ⟨_, ps_expr p hs, fun env σ c E hR hF => s env σ c _ hR.rl (hF.fn hR fun d c' x w hR' hF' v dn => hF' σ c' rfl hR' (Since.refl _))⟩
def sRet (m : LE → M D) : SM := sE m fun d _ s => some (.rt d, s)
theorem s1_ret {e : Expr} {m : LE → M D} {pos : Pos} (h : SE X C W e m) : SS1 X C c0 W (.Return (some e) pos) (sRet m) := by
  obtain ⟨t, p, s⟩ := h.out
  exact ⟨_, ps_ret p, fun env σ c E hR hF => s env σ c _ hR.rl (hF.fn hR fun d c' x w hR' hF' v dn => hF' v c' rfl hR'.ext w dn)⟩
def sRetN : SM := fun _ s => some (.rt .non, s)
theorem s1_retN {pos : Pos} : SS1 X C c0 W (.Return none pos) sRetN := ⟨_, ps_retN, fun env σ c E hR hF => hF _ c rfl hR.ext hR.rl.wf rfl⟩
def sIf (t : LE → M Bool) (m n : SM) : SM := sE t fun b => if b = true then m else n
theorem s1_if {e : Expr} {a b : List Stmt} {t : LE → M Bool} {m n : SM} {pos : Pos} (h : STe X C W e t) (ha : SS X C c0 W a m) (hb : SS X C c0 W b n) : SS1 X C c0 W (.If e a b pos) (sIf t m n) := by
  obtain ⟨tc, pc, sc⟩ := h.out
  obtain ⟨ta, pa, sa⟩ := ha.out
  obtain ⟨tb, pb, sb⟩ := hb.out
  refine ⟨_, ps_if pc pa pb, fun env σ c E hR hF => sc env σ c _ hR.rl (hF.fn hR fun d c' x w hR' hF' => ?_)⟩
  cases d with
  | true => exact iteT (sa env σ c' E hR' hF')
  | false => exact iteF (sb env σ c' E hR' hF')

/-! ### slots stored -/
theorem Rl.set {env : LE} {σ : St} {c : Cf} {i : Nat} {d : D} {v : V} (h : Rl C env σ c) (dn : Den C c.G c.ρ d v) : Rl C (env.set i (some (.val d))) (σ.set i (some v)) c := by
  have key : ∀ {j : Nat} {x : SD}, (env.set i (some (.val d)))[j]? = some (some x) → (j = i ∧ x = .val d ∧ i < env.length) ∨ (j ≠ i ∧ env[j]? = some (some x)) := by
    intro j x q
    by_cases hj : j = i
    · subst hj
      by_cases hl : j < env.length
      · rw [List.getElem?_set_self hl] at q
        cases q
        exact .inl ⟨rfl, rfl, hl⟩
      · rw [List.getElem?_eq_none (by simpa using hl)] at q
        cases q
    · rw [List.getElem?_set_ne (Ne.symm hj)] at q
      exact .inr ⟨hj, q⟩
  refine ⟨h.wf, by simp [h.len], fun j x q => ?_, fun j o q => ?_, fun j k o u a q1 q2 q3 q4 => ?_⟩
  · rcases key q with ⟨rfl, e, hl⟩ | ⟨hj, q⟩
    · cases e
      exact ⟨v, List.getElem?_set_self (by rw [← h.len]; exact hl), dn⟩
    · rw [List.getElem?_set_ne (Ne.symm hj)]
      exact h.val j x q
  · rcases key q with ⟨rfl, e, hl⟩ | ⟨hj, q⟩
    · cases e
    · rw [List.getElem?_set_ne (Ne.symm hj)]
      exact h.own j o q
  · rcases key q1 with ⟨rfl, e, hl⟩ | ⟨hj, q1⟩
    · cases e
    · rcases key q2 with ⟨rfl, e, hl⟩ | ⟨hk, q2⟩
      · cases e
      · rw [List.getElem?_set_ne (Ne.symm hj)] at q3
        rw [List.getElem?_set_ne (Ne.symm hk)] at q4
        exact h.apart j k o u a q1 q2 q3 q4
theorem Rl.wipe1 {env : LE} {σ : St} {c : Cf} (i : Nat) (h : Rl C env σ c) : Rl C (env.set i none) (σ.set i none) c := by
  have key : ∀ {j : Nat} {x : SD}, (env.set i none)[j]? = some (some x) → j ≠ i ∧ env[j]? = some (some x) := by
    intro j x q
    by_cases hj : j = i
    · subst hj
      by_cases hl : j < env.length
      · rw [List.getElem?_set_self hl] at q
        cases q
      · rw [List.getElem?_eq_none (by simpa using hl)] at q
        cases q
    · rw [List.getElem?_set_ne (Ne.symm hj)] at q
      exact ⟨hj, q⟩
  refine ⟨h.wf, by simp [h.len], fun j x q => ?_, fun j o q => ?_, fun j k o u a q1 q2 q3 q4 => ?_⟩
  · obtain ⟨hj, q⟩ := key q
    rw [List.getElem?_set_ne (Ne.symm hj)]
    exact h.val j x q
  · obtain ⟨hj, q⟩ := key q
    rw [List.getElem?_set_ne (Ne.symm hj)]
    exact h.own j o q
  · obtain ⟨hj, q1⟩ := key q1
    obtain ⟨hk, q2⟩ := key q2
    rw [List.getElem?_set_ne (Ne.symm hj)] at q3
    rw [List.getElem?_set_ne (Ne.symm hk)] at q4
    exact h.apart j k o u a q1 q2 q3 q4
theorem RlS.set {env : LE} {σ : St} {c : Cf} {i : Nat} {d : D} {v : V} (h : RlS C c0 env σ c) (dn : Den C c.G c.ρ d v) : RlS C c0 (env.set i (some (.val d))) (σ.set i (some v)) c := by
  refine ⟨h.rl.set dn, h.ext, fun j o a q1 q2 => ?_⟩
  by_cases hj : j = i
  · subst hj
    by_cases hl : j < env.length
    · rw [List.getElem?_set_self hl] at q1
      cases q1
    · rw [List.getElem?_eq_none (by simpa using hl)] at q1
      cases q1
  · rw [List.getElem?_set_ne (Ne.symm hj)] at q1 q2
    exact h.mine j o a q1 q2
def sSet (i : Nat) (m : LE → M D) : SM := sE m fun d env s => some (.nx (env.set i (some (.val d))), s)
theorem s1_set (i : Nat) {x : Str} {e : Expr} {m : LE → M D} {pos pos' : Pos} (h : SE X C W e m) (hN : X.N.Nodup) (hi : X.N[i]? = some x := by rfl) (hx : Loc X.env.scope x := by first | exact .inl rfl | exact .inr rfl) (hs : swapsWith e (some (.Name x pos')) pos.line X.env = pure false := by rfl)
    (hf : X.fn x = true ∨ X.env.scope.names.lookup x = some .local := by first | exact .inl rfl | exact .inr rfl | assumption) : SS1 X C c0 W (.Assign [.Name x pos'] e pos) (sSet i m) := by
  obtain ⟨t, p, s⟩ := h.out
  exact ⟨_, ps_set hN hi hx p hs hf, fun env σ c E hR hF => s env σ c _ hR.rl (hF.fn hR fun d c' x w hR' hF' v dn => hF' _ c' rfl (hR'.set dn) (Since.refl _))⟩
/-- a slot that owns a new container -/
theorem RlS.own {env : LE} {σ : St} {c c1 : Cf} {i : Nat} {o : O} {p : Addr} (h : RlS C c0 env σ c) (e : Ext c c1) (w : WF C c1) (n : New C c c1 o p) : RlS C c0 (env.set i (some (.own o))) (σ.set i (some (.ref p))) c1 := by
  have h1 := h.step e w
  obtain ⟨ho, a1, a2⟩ := n.at'
  have key : ∀ {j : Nat} {x : SD}, (env.set i (some (.own o)))[j]? = some (some x) → (j = i ∧ x = .own o ∧ i < env.length) ∨ (j ≠ i ∧ env[j]? = some (some x)) := by
    intro j x q
    by_cases hj : j = i
    · subst hj
      by_cases hl : j < env.length
      · rw [List.getElem?_set_self hl] at q
        cases q
        exact .inl ⟨rfl, rfl, hl⟩
      · rw [List.getElem?_eq_none (by simpa using hl)] at q
        cases q
    · rw [List.getElem?_set_ne (Ne.symm hj)] at q
      exact .inr ⟨hj, q⟩
  have notp : ∀ (j : Nat) (u : O), env[j]? = some (some (.own u)) → σ[j]? ≠ some (some (V.ref p)) := fun j u q q2 => by
    obtain ⟨a, ho', b1, b2, b3, b4, _⟩ := h.rl.own j u q
    rw [q2] at b1
    cases b1
    rw [n.fresh] at b4
    cases b4
  have hl' : ∀ {j : Nat}, j < env.length → (σ.set j (some (V.ref p)))[j]? = some (some (V.ref p)) := fun hl => List.getElem?_set_self (by rw [← h.rl.len]; exact hl)
  refine ⟨⟨w, by simp [h.rl.len], fun j x q => ?_, fun j u q => ?_, fun j k u u' a q1 q2 q3 q4 => ?_⟩, h1.ext, fun j u a q1 q2 => ?_⟩
  · rcases key q with ⟨rfl, e', _⟩ | ⟨hj, q⟩
    · cases e'
    · rw [List.getElem?_set_ne (Ne.symm hj)]
      exact h1.rl.val j x q
  · rcases key q with ⟨rfl, e', hl⟩ | ⟨hj, q⟩
    · cases e'
      exact ⟨p, ho, hl' hl, n.g, n.r, a1, a2⟩
    · rw [List.getElem?_set_ne (Ne.symm hj)]
      exact h1.rl.own j u q
  · rcases key q1 with ⟨rfl, e', hl⟩ | ⟨hj, q1⟩
    · rcases key q2 with ⟨rfl, e'', _⟩ | ⟨hk, q2⟩
      · rfl
      · rw [hl' hl] at q3
        cases q3
        rw [List.getElem?_set_ne (Ne.symm hk)] at q4
        exact absurd q4 (notp k u' q2)
    · have q1' : env[j]? = some (some (.own u)) := q1
      rcases key q2 with ⟨rfl, e'', hl⟩ | ⟨hk, q2⟩
      · rw [hl' hl] at q4
        cases q4
        rw [List.getElem?_set_ne (Ne.symm hj)] at q3
        exact absurd q3 (notp j u q1')
      · rw [List.getElem?_set_ne (Ne.symm hj)] at q3
        rw [List.getElem?_set_ne (Ne.symm hk)] at q4
        exact h1.rl.apart j k u u' a q1 q2 q3 q4
  · rcases key q1 with ⟨rfl, e', hl⟩ | ⟨hj, q1⟩
    · rw [hl' hl] at q2
      cases q2
      exact h.ext.free n.fresh
    · rw [List.getElem?_set_ne (Ne.symm hj)] at q2
      exact h1.mine j u a q1 q2
def sOwn (i : Nat) (m : LE → M O) : SM := sE m fun o env s => some (.nx (env.set i (some (.own o))), s)
theorem s1_own (i : Nat) {x : Str} {e : Expr} {m : LE → M O} {pos pos' : Pos} (h : SN X C W e m) (hN : X.N.Nodup) (hi : X.N[i]? = some x := by rfl) (hx : Loc X.env.scope x := by first | exact .inl rfl | exact .inr rfl) (hs : swapsWith e (some (.Name x pos')) pos.line X.env = pure false := by rfl)
    (hf : X.fn x = true ∨ X.env.scope.names.lookup x = some .local := by first | exact .inl rfl | exact .inr rfl | assumption) : SS1 X C c0 W (.Assign [.Name x pos'] e pos) (sOwn i m) := by
  obtain ⟨t, p, s⟩ := h.out
  exact ⟨_, ps_set hN hi hx p hs hf, fun env σ c E hR hF => s env σ c _ hR.rl (hF.fn hR fun d c' x w hR' hF' p n => hF' _ c' rfl (hR.own x w n) (Since.refl _))⟩
end
end DL
set_option Elab.async false
set_option linter.all false
set_option maxRecDepth 100000
set_option maxHeartbeats 2000000
/-! # Own containers, cells, loops -/
namespace DL
open PySem L2
section
variable {X : Cx} {C : Ct} {c0 : Cf} {W : WX}
theorem get_set {α : Type} {l : List (Option α)} {i j : Nat} {y x : α} (h : (l.set i (some y))[j]? = some (some x)) : (j = i ∧ x = y ∧ i < l.length) ∨ (j ≠ i ∧ l[j]? = some (some x)) := by
  by_cases hj : j = i
  · subst hj
    by_cases hl : j < l.length
    · rw [List.getElem?_set_self hl] at h
      cases h
      exact .inl ⟨rfl, rfl, hl⟩
    · rw [List.getElem?_eq_none (by simpa using hl)] at h
      cases h
  · rw [List.getElem?_set_ne (Ne.symm hj)] at h
    exact .inr ⟨hj, h⟩
/-- a slot's own container changes -/
theorem RlS.write {env : LE} {σ : St} {c : Cf} {i : Nat} {o o' : O} {a : Addr} {ho' : HO} (h : RlS C c0 env σ c) (he : env[i]? = some (some (.own o))) (hs : σ[i]? = some (some (.ref a))) (n : OR C c.G c.ρ o' a ho') :
    RlS C c0 (env.set i (some (.own o'))) σ ⟨upd c.H a ho', c.G, c.ρ, c.s⟩ := by
  obtain ⟨b, ho, b1, b2, b3, b4, b5⟩ := h.rl.own i o he
  rw [hs] at b1
  cases b1
  have hm := h.mine i o a he hs
  have w := h.rl.wf
  refine ⟨⟨⟨fun x u e => ?_, w.len, w.nd, fun x hx => ?_, fun m u e => ?_⟩, by simp [h.rl.len], fun j x q => ?_, fun j u q => ?_, fun j k u u' x q1 q2 q3 q4 => ?_⟩, ⟨h.ext.g, h.ext.fr, fun x u e nx => ?_, fun x d => ?_, h.ext.pr⟩, fun j u x q1 q2 => ?_⟩
  · have ne : x ≠ a := fun z => by subst z; have e' : c.G x = some u := e; rw [b2] at e'; cases e'
    show upd c.H a ho' x = some u
    rw [upd_ne ne]
    exact w.ext x u e
  · have ne : x ≠ a := fun z => by subst z; exact b3 hx
    show upd c.H a ho' x ≠ none
    rw [upd_ne ne]
    exact w.dom x hx
  · obtain ⟨x, hx, r1, r2, r3, r4⟩ := w.cel m u e
    have ne : x ≠ a := fun z => by subst z; exact b3 (List.mem_of_getElem? r1)
    exact ⟨x, hx, r1, r2, by show upd c.H a ho' x = _; rw [upd_ne ne]; exact r3, r4⟩
  · rcases get_set q with ⟨rfl, e', _⟩ | ⟨hj, q⟩
    · cases e'
    · exact h.rl.val j x q
  · rcases get_set q with ⟨rfl, e', hl⟩ | ⟨hj, q⟩
    · cases e'
      exact ⟨a, ho', hs, b2, b3, upd_same, n⟩
    · obtain ⟨x, hx, r1, r2, r3, r4, r5⟩ := h.rl.own j u q
      have ne : x ≠ a := fun z => by subst z; exact hj (h.rl.apart j i u o x q he r1 hs)
      exact ⟨x, hx, r1, r2, r3, by show upd c.H a ho' x = _; rw [upd_ne ne]; exact r4, r5⟩
  · have q1' : ∃ u, env[j]? = some (some (.own u)) := by
      rcases get_set q1 with ⟨rfl, e', _⟩ | ⟨_, q⟩
      · exact ⟨o, he⟩
      · exact ⟨u, q⟩
    have q2' : ∃ u, env[k]? = some (some (.own u)) := by
      rcases get_set q2 with ⟨rfl, e', _⟩ | ⟨_, q⟩
      · exact ⟨o, he⟩
      · exact ⟨u', q⟩
    obtain ⟨v1, q1'⟩ := q1'
    obtain ⟨v2, q2'⟩ := q2'
    exact h.rl.apart j k v1 v2 x q1' q2' q3 q4
  · have ne : x ≠ a := fun z => by subst z; rw [hm] at e; cases e
    show upd c.H a ho' x = some u
    rw [upd_ne ne]
    exact h.ext.kp x u e nx
  · have ne : x ≠ a := fun z => by subst z; exact d hm
    show upd c.H a ho' x ≠ none
    rw [upd_ne ne]
    exact h.ext.dom x d
  · rcases get_set q1 with ⟨rfl, e', hl⟩ | ⟨hj, q1⟩
    · rw [hs] at q2
      cases q2
      exact hm
    · exact h.mine j u x q1 q2
/-- a slot's own container is given away: from now on it stays -/
def O.frz? : O → Option D
  | .lst ds => some (.lst ds)
  | .dct kvs => some (.dct kvs)
  | .ins _ _ => none
def frz (i : Nat) (env : LE) : LE := match env[i]? with
  | some (some (.own o)) => match o.frz? with
    | some d => env.set i (some (.val d))
    | none => env
  | _ => env
theorem RlS.frz {env : LE} {σ : St} {c : Cf} (i : Nat) (h : RlS C c0 env σ c) : ∃ G, RlS C c0 (frz i env) σ ⟨c.H, G, c.ρ, c.s⟩ ∧ Gr c.G G := by
  have same : ∃ G, RlS C c0 env σ ⟨c.H, G, c.ρ, c.s⟩ ∧ Gr c.G G := ⟨c.G, h, Gr.refl _⟩
  unfold DL.frz
  cases he : env[i]? with
  | none => exact same
  | some x =>
    cases x with
    | none => exact same
    | some sd =>
      cases sd with
      | val d => exact same
      | own o =>
        show ∃ G, RlS C c0 (match o.frz? with | some d => env.set i (some (.val d)) | none => env) σ ⟨c.H, G, c.ρ, c.s⟩ ∧ Gr c.G G
        cases ef : o.frz? with
        | none => exact same
        | some d =>
          obtain ⟨a, ho, b1, b2, b3, b4, b5⟩ := h.rl.own i o he
          obtain ⟨w2, g2⟩ := freeze h.rl.wf b4 b2 b3
          have hm := h.mine i o a he b1
          have dn : Den C (upd c.G a ho) c.ρ d (.ref a) := by
            cases o with
            | lst ds =>
              cases ef
              obtain ⟨vs, rfl, l⟩ := b5
              exact ⟨a, vs, rfl, upd_same, l.mono g2 (Pre.refl _)⟩
            | dct ds =>
              cases ef
              obtain ⟨vs, rfl, l⟩ := b5
              exact ⟨a, vs, rfl, upd_same, l.mono g2 (Pre.refl _)⟩
            | ins _ _ => cases ef
          refine ⟨upd c.G a ho, ⟨⟨w2, by simp [h.rl.len], fun j x q => ?_, fun j u q => ?_, fun j k u u' x q1 q2 q3 q4 => ?_⟩, ⟨h.ext.g.trans g2, fun x g d => ?_, h.ext.kp, h.ext.dom, h.ext.pr⟩, fun j u x q1 q2 => ?_⟩, g2⟩
          · rcases get_set q with ⟨rfl, e', _⟩ | ⟨hj, q⟩
            · cases e'
              exact ⟨_, b1, dn⟩
            · obtain ⟨v, r1, r2⟩ := h.rl.val j x q
              exact ⟨v, r1, r2.mono g2 (Pre.refl _)⟩
          · rcases get_set q with ⟨rfl, e', _⟩ | ⟨hj, q⟩
            · cases e'
            · obtain ⟨x, hx, r1, r2, r3, r4, r5⟩ := h.rl.own j u q
              have ne : x ≠ a := fun z => by subst z; exact hj (h.rl.apart j i u o x q he r1 b1)
              exact ⟨x, hx, r1, by show upd c.G a ho x = none; rw [upd_ne ne]; exact r2, r3, r4, r5.mono g2 (Pre.refl _)⟩
          · rcases get_set q1 with ⟨_, e', _⟩ | ⟨_, q1⟩
            · cases e'
            · rcases get_set q2 with ⟨_, e', _⟩ | ⟨_, q2⟩
              · cases e'
              · exact h.rl.apart j k u u' x q1 q2 q3 q4
          · have ne : x ≠ a := fun z => by subst z; exact d hm
            show upd c.G a ho x = none
            rw [upd_ne ne]
            exact h.ext.fr x g d
          · rcases get_set q1 with ⟨_, e', _⟩ | ⟨_, q1⟩
            · cases e'
            · exact h.mine j u x q1 q2
def sFrz (i : Nat) (m : SM) : SM := fun env s => m (frz i env) s
theorem ss_frz (i : Nat) {st : List Stmt} {m : SM} (h : SS X C c0 W st m) : SS X C c0 W st (sFrz i m) := by
  obtain ⟨t, p, s⟩ := h.out
  refine ⟨t, p, fun env σ c E hR hF => ?_⟩
  obtain ⟨G, h2, g2⟩ := hR.frz i
  exact s _ σ ⟨c.H, G, c.ρ, c.s⟩ E h2 (FS.mono ⟨g2, Pre.refl _⟩ hF)
theorem s1_frz (i : Nat) {st : Stmt} {m : SM} (h : SS1 X C c0 W st m) : SS1 X C c0 W st (sFrz i m) := by
  obtain ⟨t, p, s⟩ := h.out
  refine ⟨t, p, fun env σ c E hR hF => ?_⟩
  obtain ⟨G, h2, g2⟩ := hR.frz i
  exact s _ σ ⟨c.H, G, c.ρ, c.s⟩ E h2 (FS.mono ⟨g2, Pre.refl _⟩ hF)

/-! ### x.append(e) -/
def sApp (i : Nat) (m : LE → M D) : SM := fun env s => match env[i]? with
  | some (some (.own (.lst ds))) => sE m (fun d env s => if szOk ds.length = true then some (.nx (env.set i (some (.own (.lst (ds ++ [d]))))), s) else none) env s
  | _ => none
theorem s1_app (i : Nat) {x : Str} {e : Expr} {m : LE → M D} {p1 p2 p3 p4 : Pos} (h : SE X C W e m) (hN : X.N[i]? = some x := by rfl) (hv : Vis X.env.scope x := by first | exact Or.inl rfl | exact Or.inr (Or.inl rfl) | exact Or.inr (Or.inr rfl))
    (hb : ∀ {tv : TE} {ta : TA}, PE X (.Name x p1) tv → PA X [e] ta → PE X (.Call (.Attribute (.Name x p1) "append" p2) [e] [] p3) (tBM X.K "list" rAppend tv ta))
    (hst : starEach [e] X.env = (false, eval e X.env) :: starEach [] X.env := by rfl)
    (hs : swapsWith (.Call (.Attribute (.Name x p1) "append" p2) [e] [] p3) none p4.line X.env = pure false := by rfl)
    (hd : (x == ("__debug__" : Str)) = false := by decide) (hcd : (x == ("__classdict__" : Str)) = false := by decide) :
    SS1 X C c0 W (.Expr (.Call (.Attribute (.Name x p1) "append" p2) [e] [] p3) p4) (sApp i m) := by
  obtain ⟨te, pe, se⟩ := h.out
  refine ⟨_, ps_expr (hb (pe_var hN hv hd hcd) (pa_cons pe pa_nil hst)) hs, fun env σ c E hR hF => ?_⟩
  obtain ⟨ds, he, hF⟩ : ∃ ds, env[i]? = some (some (.own (.lst ds))) ∧ FS C c0 c W E (sE m (fun d env s => if szOk ds.length = true then some (.nx (env.set i (some (.own (.lst (ds ++ [d]))))), s) else none) env c.s) := by
    unfold sApp at hF
    cases q : env[i]? with
    | none => rw [q] at hF; exact False.elim hF
    | some o =>
      cases o with
      | none => rw [q] at hF; exact False.elim hF
      | some sd =>
        cases sd with
        | val d => rw [q] at hF; exact False.elim hF
        | own u =>
          cases u with
          | lst ds => rw [q] at hF; exact ⟨ds, rfl, hF⟩
          | dct ds => rw [q] at hF; exact False.elim hF
          | ins a b => rw [q] at hF; exact False.elim hF
  obtain ⟨a, ho, b1, b2, b3, b4, vs, rfl, l⟩ := hR.rl.own i _ he
  refine ⟨_, b1, .inl ⟨rfl, _, SqL.of b4⟩, se env σ c _ hR.rl (hF.fn hR fun d c' x w hR' hF' v dn => ?_)⟩
  obtain ⟨a', ho', b1', b2', b3', b4', vs', rfl, l'⟩ := hR'.rl.own i _ he
  rw [b1] at b1'
  cases b1'
  cases hz : szOk ds.length with
  | false => rw [hz] at hF'; exact False.elim hF'
  | true =>
    rw [hz] at hF'
    exact ⟨a, vs', v, rfl, rfl, b4', by rw [l'.length]; exact szOk_lt hz, hF' σ ⟨_, _, _, _⟩ rfl (hR'.write he b1 ⟨_, rfl, l'.append (.one dn)⟩) ⟨Gr.refl _, Pre.refl _⟩⟩
end
end DL
set_option Elab.async false
set_option linter.all false
set_option maxRecDepth 100000
set_option maxHeartbeats 2000000
/-! # Cells, places, defs -/
namespace DL
open PySem L2
section
variable {X : Cx} {C : Ct} {c0 : Cf} {W : WX}
/-! ### cells -/
theorem WF.cell {c : Cf} {n : Nat} {o o' : O} {a : Addr} {ho' : HO} (w : WF C c) (hs : c.s[n]? = some (some o)) (hr : c.ρ[n]? = some a) (h : OR C c.G c.ρ o' a ho') :
    WF C ⟨upd c.H a ho', c.G, c.ρ, c.s.set n (some o')⟩ ∧ Ext c ⟨upd c.H a ho', c.G, c.ρ, c.s.set n (some o')⟩ := by
  obtain ⟨a', ho, r1, r2, r3, r4⟩ := w.cel n o hs
  rw [hr] at r1
  cases r1
  have am : a ∈ c.ρ := List.mem_of_getElem? hr
  refine ⟨⟨fun x u e => ?_, by simp [w.len], w.nd, fun x hx => ?_, fun m u e => ?_⟩, ⟨Gr.refl _, fun x g d => g, fun x u e nx => ?_, fun x d => ?_, ⟨[], by simp⟩⟩⟩
  · have ne : x ≠ a := fun z => by subst z; have e' : c.G x = some u := e; rw [r2] at e'; cases e'
    show upd c.H a ho' x = some u
    rw [upd_ne ne]
    exact w.ext x u e
  · show upd c.H a ho' x ≠ none
    by_cases ne : x = a
    · subst ne; rw [upd_same]; simp
    · rw [upd_ne ne]; exact w.dom x hx
  · rcases get_set e with ⟨rfl, e', _⟩ | ⟨hm, e⟩
    · cases e'
      exact ⟨a, ho', hr, r2, upd_same, h⟩
    · obtain ⟨x, hx, q1, q2, q3, q4⟩ := w.cel m u e
      have ne : x ≠ a := fun z => by
        subst z
        exact hm (nd_ix w.nd q1 hr)
      exact ⟨x, hx, q1, q2, by show upd c.H a ho' x = _; rw [upd_ne ne]; exact q3, q4⟩
  · have ne : x ≠ a := fun z => by subst z; exact nx am
    show upd c.H a ho' x = some u
    rw [upd_ne ne]
    exact e
  · show upd c.H a ho' x ≠ none
    by_cases ne : x = a
    · subst ne; rw [upd_same]; simp
    · rw [upd_ne ne]; exact d
def alloc (o : O) : M D := fun s => .ok (.loc s.length) (s ++ [some o])
def eLoc (m : LE → M O) : LE → M D := fun env => m env >>= alloc
theorem New.alloc {c c1 : Cf} {o : O} {p : Addr} (e : Ext c c1) (w : WF C c1) (n : New C c c1 o p) :
    WF C ⟨c1.H, c1.G, c1.ρ ++ [p], c1.s ++ [some o]⟩ ∧ Ext c ⟨c1.H, c1.G, c1.ρ ++ [p], c1.s ++ [some o]⟩ ∧ (c1.ρ ++ [p])[c1.s.length]? = some p := by
  obtain ⟨ho, h1, h2⟩ := n.at'
  have hp : Pre c1.ρ (c1.ρ ++ [p]) := ⟨[p], rfl⟩
  have hat : (c1.ρ ++ [p])[c1.s.length]? = some p := by rw [← w.len]; simp
  refine ⟨⟨w.ext, by simp [w.len], ?_, fun x hx => ?_, fun m u q => ?_⟩, ⟨e.g, e.fr, e.kp, e.dom, ?_⟩, hat⟩
  · rw [List.nodup_append]
    refine ⟨w.nd, by simp, fun x hx y hy => ?_⟩
    have : y = p := by simpa using hy
    subst this
    exact fun z => n.r (z ▸ hx)
  · rcases List.mem_append.mp hx with hx | hx
    · exact w.dom x hx
    · have : x = p := by simpa using hx
      subst this
      show c1.H x ≠ none
      rw [h1]; simp
  · by_cases hm : m < c1.s.length
    · rw [List.getElem?_append_left hm] at q
      obtain ⟨x, hx, q1, q2, q3, q4⟩ := w.cel m u q
      exact ⟨x, hx, hp.get q1, q2, q3, q4.mono (Gr.refl _) hp⟩
    · have hml : m = c1.s.length := by
        have := (List.getElem?_eq_some_iff.mp q).1
        simp at this
        omega
      subst hml
      simp at q
      subst q
      exact ⟨p, ho, hat, n.g, h1, h2.mono (Gr.refl _) hp⟩
  · obtain ⟨more, q, f⟩ := e.pr
    refine ⟨more ++ [p], by show c1.ρ ++ [p] = _; rw [q, List.append_assoc], fun x hx => ?_⟩
    rcases List.mem_append.mp hx with hx | hx
    · exact f x hx
    · have : x = p := by simpa using hx
      subst this
      exact n.fresh
theorem se_loc {e : Expr} {m : LE → M O} (h : SN X C W e m) : SE X C W e (eLoc m) := by
  obtain ⟨t, p, s⟩ := h.out
  refine ⟨t, p, fun env σ c Q hR hF => ?_⟩
  refine s env σ c _ hR (Fn.bind0 hF fun o c1 e1 w1 hF1 p n => ?_)
  obtain ⟨w2, e2, hat⟩ := n.alloc e1 w1
  exact hF1 ⟨_, _, _, _⟩ rfl e2 w2 _ ⟨p, rfl, hat⟩

/-! ### lists that are read -/
def rdL : D → M (List D)
  | .lst ds => pure ds
  | .scr ns => pure (ns.map .int)
  | .loc n => fun s => match s[n]? with
    | some (some (.lst ds)) => .ok ds s
    | _ => .stuck
  | _ => mStuck
theorem denInts {G : Hp} {ρ : List Addr} : ∀ ns : List Int, DenL C G ρ (ns.map .int) (ns.map V.int)
  | [] => .nil
  | n :: ns => .cons rfl (denInts ns)
theorem rdL_sim {c : Cf} {x : D} {v : V} {β : Type} {f : List D → M β} {K : β → Cf → Prop} {E : XK} (w : WF C c) (dn : Den C c.G c.ρ x v) (h : Fn C c ((rdL x >>= f) c.s) K E) :
    ∃ p vs ds, v = .ref p ∧ SqL C.K c.H p vs ∧ DenL C c.G c.ρ ds vs ∧ Fn C c (f ds c.s) K E := by
  cases x <;> first | exact False.elim h | skip
  · obtain ⟨a, vs, rfl, ha, l⟩ := dn
    exact ⟨a, vs, _, rfl, SqL.of (w.ext _ _ ha), l, h⟩
  · obtain ⟨a, rfl, ha⟩ := dn
    exact ⟨a, _, _, rfl, w.ext.sql ha, denInts _, h⟩
  · rename_i n
    obtain ⟨a, rfl, ha⟩ := dn
    have h' : Fn C c (R.bind (match c.s[n]? with | some (some (.lst ds)) => R.ok ds c.s | _ => R.stuck) f) K E := h
    cases q : c.s[n]? with
    | none => rw [q] at h'; exact False.elim h'
    | some o =>
      cases o with
      | none => rw [q] at h'; exact False.elim h'
      | some o =>
        cases o with
        | lst ds =>
          rw [q] at h'
          obtain ⟨b, ho, r1, r2, r3, vs, rfl, l⟩ := w.cel n _ q
          rw [ha] at r1
          cases r1
          exact ⟨a, vs, ds, rfl, SqL.of r3, l, h'⟩
        | dct _ => rw [q] at h'; exact False.elim h'
        | ins _ _ => rw [q] at h'; exact False.elim h'
theorem DenL.at' {G : Hp} {ρ : List Addr} {ds : List D} {vs : List V} {i : Int} {d : D} (h : DenL C G ρ ds vs) (e : atI ds i = some d) : ∃ v, atI vs i = some v ∧ Den C G ρ d v := by
  unfold atI at e ⊢
  rw [h.length]
  cases q : ixN ds.length i with
  | none => rw [q] at e; cases e
  | some j =>
    rw [q] at e
    obtain ⟨v, h1, h2⟩ := h.get' (i := j) e
    exact ⟨v, h1, h2⟩
def oIx (x i : D) : M D := match i with
  | .int i => match x with
    | .tup ds => optM (atI ds i)
    | .str z => guardM (szOk z.length) >>= fun _ => optM (atI z.cps.toList i) >>= fun c => pure (.str ⟨#[c]⟩)
    | x => rdL x >>= fun ds => optM (atI ds i)
  | _ => mStuck
theorem Fn.opt {c : Cf} {α : Type} {o : Option α} {K : α → Cf → Prop} {E : XK} (w : WF C c) (h : Fn C c ((DL.optM o : M α) c.s) K E) : ∃ a, o = some a ∧ K a c := by
  cases o with
  | some a => exact ⟨a, rfl, Fn.ok w h⟩
  | none => exact False.elim h
theorem s_ix : SimO C (rIx C.K) oIx := by
  intro c x y v w Q E wf dx dy hF
  cases y <;> first | exact False.elim hF | skip
  rename_i i
  have lists : ∀ x, Den C c.G c.ρ x v → Fn C c ((rdL x >>= fun ds => optM (atI ds i)) c.s) (KD C Q) E → rIxL C.K v w c.H Q := fun x dx hF => by
    obtain ⟨p, vs, ds, rfl, hq, l, hF2⟩ := rdL_sim wf dx hF
    obtain ⟨d, e, k⟩ := Fn.opt wf hF2
    obtain ⟨u, e2, dn⟩ := l.at' e
    exact ⟨p, vs, i, u, rfl, dy, hq, e2, k u dn⟩
  cases x <;> first
    | exact .inl (lists _ dx hF)
    | skip
  · obtain ⟨hz, hF2⟩ := Fn.guard hF
    obtain ⟨a, e, hF3⟩ := Fn.optM hF2
    exact .inr (.inr ⟨_, i, a, dx, dy, szOk_line hz, e, Fn.ok wf hF3 _ rfl⟩)
  · obtain ⟨d, e, k⟩ := Fn.opt wf hF
    obtain ⟨a, vs, rfl, hq, l⟩ := dx
    obtain ⟨u, e2, dn⟩ := l.at' e
    exact .inr (.inl ⟨a, vs, i, u, rfl, dy, wf.ext.sqt hq, e2, k u dn⟩)
def eIx : (LE → M D) → (LE → M D) → LE → M D := eBin oIx
theorem se_ix {a b : Expr} {ma mb : LE → M D} {pos : Pos} (ha : SE X C W a ma) (hb : SE X C W b mb) (hK : X.K = C.K := by rfl) (hs : PlainIx b := by exact fun _ _ => rfl) : SE X C W (.Subscript a b pos) (eIx ma mb) := by
  obtain ⟨ta, pa, sa⟩ := ha.out
  obtain ⟨tb, pb, sb⟩ := hb.out
  refine ⟨_, pe_ix ix_seq pa pb hs, ?_⟩
  rw [hK]
  exact sim_op s_ix sa sb

/-! ### slices -/
def SimOp (C : Ct) (W : WX) (t : TO) (m : LE → M (Option Int)) : Prop :=
  ∀ env σ c Q, Rl C env σ c → Fn C c (m env c.s) (fun o c' => Q o c'.H) (fun a b H => W a b σ H) → t σ c.H Q
structure SO (X : Cx) (C : Ct) (W : WX) (e : Option Expr) (m : LE → M (Option Int)) : Prop where
  out : ∃ t, PO X e t ∧ SimOp C W t m
def pNone : LE → M (Option Int) := fun _ => pure none
def asI : D → M (Option Int)
  | .int i => pure (some i)
  | _ => mStuck
def pSome (m : LE → M D) : LE → M (Option Int) := fun env => m env >>= asI
theorem so_none : SO X C W none pNone := ⟨_, po_none, fun env σ c Q hR hF => Fn.ok hR.wf hF⟩
theorem so_some {e : Expr} {m : LE → M D} (h : SE X C W e m) : SO X C W (some e) (pSome m) := by
  obtain ⟨t, p, s⟩ := h.out
  refine ⟨_, po_some p, fun env σ c Q hR hF => s env σ c _ hR (Fn.bind hF fun x c1 e1 w1 hF1 v dn => ?_)⟩
  cases x <;> first | exact False.elim hF1 | skip
  exact ⟨_, dn, Fn.ok w1 hF1⟩
def cutD (xs : List D) (lo hi : Option Int) : List D := (xs.drop (HT.sIx xs.length 0 lo)).take (HT.sIx xs.length xs.length hi - HT.sIx xs.length 0 lo)
theorem DenL.cut {G : Hp} {ρ : List Addr} {ds : List D} {vs : List V} (h : DenL C G ρ ds vs) (lo hi : Option Int) : DenL C G ρ (cutD ds lo hi) (cutV vs lo hi) := by
  unfold cutD cutV
  rw [h.length]
  exact (h.drop _).take _
def oSl (x : D) (lo hi : Option Int) : M D := match x with
  | .str z => guardM (szOk z.length) >>= fun _ => pure (.str (cutS z lo hi))
  | .tup ds => pure (.tup (cutD ds lo hi))
  | x => rdL x >>= fun ds => pure (.lst (cutD ds lo hi))
def rSlU (K : PySem.W.Frag) : V → Option Int → Option Int → Hp → VK → Prop := fun x lo hi H Q => rSlS x lo hi H Q ∨ rSlA K x lo hi H Q ∨ rSlL K x lo hi H Q
theorem sl_U : SlR X (rSlU X.K) := sl_str.or (sl_tupA.or sl_list)
theorem cut_whole {ds : List D} {lo hi : Option Int} (h : HT.sIx ds.length 0 lo = 0 ∧ HT.sIx ds.length ds.length hi = ds.length) : cutD ds lo hi = ds := by
  unfold cutD
  rw [h.1, h.2]
  simp
def eSl (m : LE → M D) (l h : LE → M (Option Int)) : LE → M D := fun env => m env >>= fun x => l env >>= fun a => h env >>= fun b => oSl x a b
theorem se_sl {e : Expr} {lo hi : Option Expr} {m : LE → M D} {l h : LE → M (Option Int)} {p2 pos : Pos} (he : SE X C W e m) (hl : SO X C W lo l) (hh : SO X C W hi h) (hK : X.K = C.K := by rfl) : SE X C W (.Subscript e (.Slice lo hi none p2) pos) (eSl m l h) := by
  obtain ⟨t, p, s⟩ := he.out
  obtain ⟨tl, pl, sl⟩ := hl.out
  obtain ⟨th, ph, sh⟩ := hh.out
  refine ⟨_, pe_slice sl_U p pl ph, fun env σ c Q hR hF => ?_⟩
  refine s env σ c _ hR (Fn.bind hF fun x c1 e1 w1 hF1 v d1 => ?_)
  have R1 := hR.ext e1 w1
  refine sl env σ c1 _ R1 (Fn.bind hF1 fun a c2 e2 w2 hF2 => ?_)
  have R2 := R1.ext e2 w2
  refine sh env σ c2 _ R2 (Fn.bind hF2 fun b c3 e3 w3 hF3 => ?_)
  have d3 := d1.mono (e2.g.trans e3.g) (e2.pre.trans e3.pre)
  rw [hK]
  have lists : ∀ x, Den C c3.G c3.ρ x v → Fn C c3 ((rdL x >>= fun ds => pure (.lst (cutD ds a b))) c3.s) (KD C Q) (fun a b H => W a b σ H) → rSlL C.K v a b c3.H Q := fun x dx hF => by
    obtain ⟨p, vs, ds, rfl, hq, l, hF2⟩ := rdL_sim w3 dx hF
    refine ⟨p, vs, rfl, hq, fun q hp => ?_⟩
    obtain ⟨w4, e4⟩ := lay_frozen (o := .lst (cutV vs a b)) w3 hp
    exact Fn.ok w4 (Fn.mono e4 hF2) _ ⟨q, _, rfl, upd_same, (l.cut a b).mono e4.g e4.pre⟩
  cases x <;> first
    | exact .inr (.inr (lists _ d3 hF3))
    | skip
  · obtain ⟨hz, hF4⟩ := Fn.guard hF3
    exact .inl ⟨_, d3, szOk_line hz, Fn.ok w3 hF4 _ rfl⟩
  · obtain ⟨p, vs, rfl, hq, l⟩ := d3
    refine .inr (.inl ⟨p, vs, rfl, w3.ext.sqt hq, fun hw => ?_, fun _ q hp => ?_⟩)
    · rw [l.length] at hw
      exact Fn.ok w3 hF3 _ (by rw [cut_whole hw]; exact ⟨p, vs, rfl, hq, l⟩)
    · obtain ⟨w4, e4⟩ := lay_frozen (o := .tup (cutV vs a b)) w3 hp
      exact Fn.ok w4 (Fn.mono e4 hF3) _ ⟨q, _, rfl, SqT.of upd_same, (l.cut a b).mono e4.g e4.pre⟩
end
end DL
set_option Elab.async false
set_option linter.all false
set_option maxRecDepth 100000
set_option maxHeartbeats 2000000
/-! # Defs and loops -/
namespace DL
open PySem L2
open PyProof.Rows hiding St
/-- room, and no guard around -/
structure RoomG (k : Nat) (A : Around) : Prop where
  room : Room k A
  gd : A.guards = some []
theorem RoomG.mono {j k : Nat} {A : Around} (r : RoomG k A) (h : j ≤ k) : RoomG j A := ⟨r.room.mono h, r.gd⟩
theorem RoomG.deeper {k : Nat} {A : Around} (r : RoomG (k + 1) A) (env : Env) : RoomG k (A.deeper env) := ⟨r.room.deeper env, r.gd⟩
theorem RoomG.units {k : Nat} {A : Around} (r : RoomG k A) : A.units + 64 < cLine := r.room.units

/-- the def at f does what its mirror says -/
structure FnG (P : Program) (w : World) (C : Ct) (mg : Str → Option Value) (base : Heap) (k : Nat) (f : Addr) (fd : FuncData) (ps : List Str) (m : List D → M D) : Prop where
  run : ∀ (A : Around) (outer : List Env) (s : Shared) (c : Cf) (args : Args) (us : List Value) (vs : List V) (ds : List D) (Q : VK) (E : XK), RoomG k A → Env0 P w C.K mg base A outer s c.H →
    BindsTo s fd args (ps.zip us) → Vals vs us → WF C c → DenL C c.G c.ρ ds vs → ds.length = ps.length → Fn C c (m ds c.s) (KD C Q) E →
    codeAny (model P w) A (.call (.ref f) args) (CR (L2.CX P w) outer P w c.H s Q E) s
theorem FnG.mono {P : Program} {w : World} {C : Ct} {mg : Str → Option Value} {base : Heap} {j k : Nat} {f : Addr} {fd : FuncData} {ps : List Str} {m : List D → M D} (F : FnG P w C mg base j f fd ps m) (h : j ≤ k) : FnG P w C mg base k f fd ps m :=
  ⟨fun A outer s c args us vs ds Q E hr => F.run A outer s c args us vs ds Q E (hr.mono h)⟩
/-- the slots at the entry -/
def ent (n : Nat) (ds : List D) : LE := ds.map (fun d => some (.val d)) ++ List.replicate (n - ds.length) none
def endFn : SR → R D
  | some (.nx _, s) => .ok .non s
  | some (.rt d, s) => .ok d s
  | some (.xc k fs _, s) => .exc k fs s
  | _ => .stuck
def mFn (n : Nat) (b : SM) : List D → M D := fun ds s => endFn (b (ent n ds) s)
theorem ent_get {n : Nat} {ds : List D} {i : Nat} {x : SD} (h : (ent n ds)[i]? = some (some x)) : ∃ d, ds[i]? = some d ∧ x = .val d := by
  unfold ent at h
  by_cases hi : i < ds.length
  · rw [List.getElem?_append_left (by simpa using hi), List.getElem?_map] at h
    cases e : ds[i]? with
    | none => rw [e] at h; cases h
    | some d =>
      rw [e] at h
      simp only [Option.map_some, Option.some.injEq] at h
      exact ⟨d, rfl, h.symm⟩
  · rw [List.getElem?_append_right (by simpa using hi), List.getElem?_replicate] at h
    split at h <;> cases h
theorem start_get {N : List Str} {vs : List V} {i : Nat} {v : V} (h : vs[i]? = some v) : (L2.start N vs)[i]? = some (some v) := by
  have hi : i < vs.length := (List.getElem?_eq_some_iff.mp h).1
  unfold L2.start
  rw [List.getElem?_append_left (by simpa using hi), List.getElem?_map, h]
  rfl
theorem rl_start {C : Ct} {c : Cf} {N : List Str} {ds : List D} {vs : List V} (w : WF C c) (dn : DenL C c.G c.ρ ds vs) : RlS C c (ent N.length ds) (L2.start N vs) c := by
  refine ⟨⟨w, ?_, fun i d q => ?_, fun i o q => ?_, fun i j o u a q1 _ _ _ => ?_⟩, Ext.refl c, fun i o a q _ => ?_⟩
  · unfold ent L2.start
    simp [dn.length]
  · obtain ⟨d', e, q'⟩ := ent_get q
    cases q'
    obtain ⟨v, h1, h2⟩ := dn.get' e
    exact ⟨v, start_get h1, h2⟩
  · obtain ⟨d', _, q'⟩ := ent_get q
    cases q'
  · obtain ⟨d', _, q'⟩ := ent_get q1
    cases q'
  · obtain ⟨d', _, q'⟩ := ent_get q
    cases q'
theorem fs_end {C : Ct} {c : Cf} {r : SR} {Q : VK} {E : XK} (h : Fn C c (endFn r) (KD C Q) E) : FS C c c (fun cls d _ H => E cls d H) { nx := fun _ H => Q .non H, rt := Q } r := by
  cases r with
  | none => exact h
  | some p =>
    obtain ⟨f, s⟩ := p
    cases f with
    | nx env => exact fun σ c' q hR _ => h c' q hR.ext hR.rl.wf .non rfl
    | rt d => exact fun v c' q x w dn => h c' q x w v dn
    | bk env => exact False.elim h
    | ct env => exact False.elim h
    | xc k fs env =>
      cases k with
      | own k => exact fun σ c' dx gs q hR _ hd hf => h c' dx gs q hR.ext hR.rl.wf hd hf
      | bi n => exact fun σ c' q hR _ => h c' q hR.ext hR.rl.wf
abbrev WF0 (E : XK) : WX := fun cls d _ H => E cls d H
section
variable {P : Program} {w : World} {C : Ct} {mg : Str → Option Value} {base : Heap}
theorem fn_mirror {x qual : Str} {st : Stmt} {f : Addr} {fd : FuncData} {N ps : List Str} {k : Nat} {b : SM} (F : Fun C.K x qual st f fd) (Sc : FnScope N ps (defScope st))
    (body : ∀ (cdv : Value) (A : Around) (outer : List Env) (s : Shared) (c : Cf) (E : XK), RoomG k (A.deeper (envOfC qual (defScope st) s.heap.objs.size f cdv)) →
      SS (cxOf (L2.CX P w) P w C.K mg base N qual (defScope st) f cdv A outer s c.H E) C c (WF0 E) (defBody st) b) : FnG P w C mg base (k + 1) f fd ps (mFn N.length b) := by
  obtain ⟨oc, od, kV, doc, pm, an, cdv, ct, osl, rfl, lk, hcd⟩ := F.ex
  constructor
  intro A outer s c args us vs ds Q E room e0 hb rv wf dn hl hF
  have kin : C.K.In s.heap := e0.mod.kin.keeps fun a o q => (e0.bs a o q).1
  have nolim : s.heap.NoLimit := e0.mod.nolimit.keeps fun a o q => (e0.bs a o q).1
  have hlv : vs.length = ps.length := dn.length.trans hl
  have kinds : ∀ y ∈ ps.zip us, (defScope st).names.lookup y.1 = some .local ∨ ((defScope st).names.lookup y.1 = some .cell ∧ ((cellsFrom (s.heap.objs.size + 1) (defScope st).names []).lookup y.1).isSome = true) := by
    rintro ⟨n, v⟩ hy
    exact (Sc.par n (List.of_mem_zip hy).1).imp id fun q => ⟨q, PySem.W.cellsFrom_some _ _ _ (.inl q)⟩
  refine codeAny_call_function room.room.depth (kin _ _ lk) rfl Sc.co Sc.gen rfl (PySem.W.codeRec_of kin hcd) (hb _ _ _ _ ?_)
  refine wpAny_newFunctionEnv_cells Sc.kind kinds fun env he s1 inC => ?_
  cases he
  refine ⟨nolim.keeps inC.toInCall.keep, codeAny_func ?_⟩
  obtain ⟨t, ht, hs⟩ := (body cdv A outer s c E (room.deeper _)).out
  have I := inv_start (CX := L2.CX P w) (E := E) Sc room.room.hd e0 hlv rv inC
  have q := hs _ _ c _ (rl_start (N := N) wf dn) (fs_end hF)
  refine wpAny_mono (ht.run [] s1 _ c.H _ I q) (fun fl s' z => ?_) fun _ _ z => z
  cases fl with
  | ret u => exact let ⟨v, σ', H', J, r, y⟩ := z; ⟨v, H', J.os, J.bare, J.base, J.hok, r, y⟩
  | next => exact let ⟨σ', H', J, y⟩ := z; ⟨.non, H', J.os, J.bare, J.base, J.hok, rfl, y⟩
  | brk => exact let ⟨_, _, _, y⟩ := z; False.elim y
  | cont => exact let ⟨_, _, _, y⟩ := z; False.elim y
end

/-! ### calls -/
section
variable {X : Cx} {C : Ct} {c0 : Cf} {W : WX} {k : Nat} {f : Addr} {fd : FuncData} {ps : List Str} {m : List D → M D}
theorem fn_run {pins : List (Addr × Obj)} {σ : L2.St} {c : Cf} {s : Shared} {Q : VK} {us : List Value} {vs : List V} {ds : List D} {args : Args} (hK : X.K = C.K) (F : FnG X.prog X.w C X.mg X.base k f fd ps m) (room : RoomG k X.A) (tk : Takes X W)
    (I : Inv X pins σ c.H s) (hb : BindsTo s fd args (ps.zip us)) (rv : Vals vs us) (wf : WF C c) (dn : DenL C c.G c.ρ ds vs) (hl : ds.length = ps.length) (hF : Fn C c (m ds c.s) (KD C Q) (fun a b H => W a b σ H)) :
    wpAny (model X.prog X.w) X.A (call (.ref f) args.pos args.kw) (EP X pins σ Q) X.xe s := by
  have e0 := I.env0
  rw [hK] at e0
  refine wpAny_call (codeAny_mono (F.run X.A X.stack s c args us vs ds Q (WE W σ) room e0 hb rv wf dn hl hF) fun r s' z => ?_)
  cases r with
  | error e => exact passAt tk σ pins c.H s e s' I z
  | ok fl =>
    cases fl with
    | ret u => exact I.after z
    | next => exact z.elim
    | brk => exact z.elim
    | cont => exact z.elim
/-- f(e, ..): the reading -/
def tCallG (C : Ct) (W : WX) (n : Nat) (m : List D → M D) (dvs : List V) (dds : List D) (t : TA) : TE := fun σ H Q => t σ H fun vs H1 => ∃ c ds, c.H = H1 ∧ WF C c ∧ DenL C c.G c.ρ ds vs ∧ (ds ++ dds).length = n ∧ DenL C c.G c.ρ dds dvs ∧ Fn C c (m (ds ++ dds) c.s) (KD C Q) (fun a b H => W a b σ H)
def eCall (n : Nat) (m : List D → M D) (dds : List D) (ma : LE → M (List D)) : LE → M D := fun env => ma env >>= fun ds => guardM (decide ((ds ++ dds).length = n)) >>= fun _ => m (ds ++ dds)
/-- the defaults that fill up -/
structure Dfl (C : Ct) (fd : FuncData) (ps : List Str) (dds : List D) : Prop where
  at' : ∃ dvs dus, Vals dvs dus ∧ Binds C.K fd ps dus ∧ ∀ G ρ, DenL C G ρ dds dvs
theorem Dfl.none {fd : FuncData} {ps : List Str} (h : Binds C.K fd ps []) : Dfl C fd ps [] := ⟨[], [], .nil, h, fun _ _ => .nil⟩
theorem se_call {x : Str} {p pos : Pos} {e : Expr} {es : List Expr} {ma : LE → M (List D)} {dds : List D} (F : FnG X.prog X.w C X.mg X.base k f fd ps m) (room : RoomG k X.A) (tk : Takes X W) (hm : X.mg x = some (.ref f)) (hk : PySem.W.keepIn C.K (.ref f) = true)
    (df : Dfl C fd ps dds) (ha : SA X C W (e :: es) ma) (hK : X.K = C.K := by rfl) (hg : Gl X x := by rfl) (hdb : (x == ("__debug__" : Str)) = false := by decide) (he : starEach (e :: es) X.env = (false, eval e X.env) :: starEach es X.env := by rfl)
    (hpl : (backTo pos (starEach es X.env)).any (·.1) = false := by rfl) : SE X C W (.Call (.Name x p) (e :: es) [] pos) (eCall ps.length m dds ma) := by
  obtain ⟨t, pa, sa⟩ := ha.out
  obtain ⟨dvs, dus, dv, db, dd⟩ := df.at'
  refine ⟨tCallG C W ps.length m dvs dds t, ⟨fun pins s σ H Q I h => ?_⟩, fun env σ c Q hR hF => ?_⟩
  · refine wpAny_Call_Name_kw (ld_glob I hg hm ?_ hdb)
    refine PySem.W.callWith_K (h₀ := X.base) I.ok.mod.kin (by rw [hK]; exact hk) (thn (pa.run pos pins s σ H _ I h) fun us s1 z => ?_) he hpl
    obtain ⟨vs, H1, I1, rv, c, ds, rfl, wf, dn, hl, d2, hF⟩ := z
    refine ⟨I1.kIn, ?_⟩
    have hlen : (us ++ dus).length = ps.length := by
      rw [← hl, List.length_append, List.length_append, ← rv.length, ← dv.length, dn.length, d2.length]
    exact fn_run (args := ⟨us, []⟩) (us := us ++ dus) hK F room tk I1 (db s1 us (by rw [← hK]; exact I1.kIn) hlen) (rv.append dv) wf (dn.append d2) hl hF
  · refine sa env σ c _ hR (Fn.bind hF fun ds c1 e1 w1 hF1 vs dn => ?_)
    obtain ⟨hz, hF2⟩ := Fn.guard hF1
    exact ⟨c1, ds, rfl, w1, dn, of_decide_eq_true hz, dd _ _, hF2⟩
theorem se_call0 {x : Str} {p pos : Pos} {dds : List D} (F : FnG X.prog X.w C X.mg X.base k f fd ps m) (room : RoomG k X.A) (tk : Takes X W) (hm : X.mg x = some (.ref f)) (hk : PySem.W.keepIn C.K (.ref f) = true)
    (df : Dfl C fd ps dds) (hK : X.K = C.K := by rfl) (hg : Gl X x := by rfl) (hdb : (x == ("__debug__" : Str)) = false := by decide) : SE X C W (.Call (.Name x p) [] [] pos) (eCall ps.length m dds aNil) := by
  obtain ⟨dvs, dus, dv, db, dd⟩ := df.at'
  refine ⟨tCallG C W ps.length m dvs dds tNil, ⟨fun pins s σ H Q I h => ?_⟩, fun env σ c Q hR hF => ?_⟩
  · refine wpAny_Call_Name_kw (ld_glob I hg hm ?_ hdb)
    obtain ⟨c, ds, rfl, wf, dn, hl, d2, hF⟩ := h
    have hlen : (([] : List Value) ++ dus).length = ps.length := by
      rw [← hl, List.length_append, List.length_append, ← dv.length, d2.length, ← dn.length]
      rfl
    refine PySem.W.callWith_K0 I.kIn (by rw [hK]; exact hk) ?_
    exact fn_run (args := ⟨[], []⟩) (us := [] ++ dus) hK F room tk I (db s [] (by rw [← hK]; exact I.kIn) hlen) (Vals.append .nil dv) wf (dn.append d2) hl hF
  · obtain ⟨hz, hF2⟩ := Fn.guard hF
    exact ⟨c, [], rfl, hR.wf, .nil, of_decide_eq_true hz, dd _ _, hF2⟩

/-! ### targets -/
/-- all slots but those at is stay, and none of these owns a thing -/
structure Still (is : List Nat) (env env' : LE) (σ σ' : St) : Prop where
  env : ∀ j, j ∉ is → env'[j]? = env[j]?
  st : ∀ j, j ∉ is → σ'[j]? = σ[j]?
  own : ∀ j ∈ is, ∀ o, env'[j]? ≠ some (some (.own o))
  len : σ'.length = σ.length
theorem Still.rls {is : List Nat} {env env' : LE} {σ σ' : L2.St} {c : Cf} (h : Still is env env' σ σ') (hR : RlS C c0 env σ c) (r : Rl C env' σ' c) : RlS C c0 env' σ' c := by
  refine ⟨r, hR.ext, fun i o a q1 q2 => ?_⟩
  by_cases hi : i ∈ is
  · exact absurd q1 (h.own i hi o)
  · rw [h.env i hi] at q1
    rw [h.st i hi] at q2
    exact hR.mine i o a q1 q2
abbrev GM := D → LE → Option LE
def SimG (C : Ct) (g : TG) (mg : GM) (is : List Nat) : Prop :=
  ∀ env σ c d v env' Q, Rl C env σ c → Den C c.G c.ρ d v → mg d env = some env' → (∀ σ', Rl C env' σ' c → Still is env env' σ σ' → Q σ' c.H) → g v σ c.H Q
structure SG (X : Cx) (C : Ct) (e : Expr) (mg : GM) (is : List Nat) : Prop where
  out : ∃ g, PG X e g ∧ SimG C g mg is
def gN (i : Nat) : GM := fun d env => some (env.set i (some (.val d)))
theorem Rl.setStill {env : LE} {σ : L2.St} {c : Cf} {d : D} {v : V} (i : Nat) (dn : Den C c.G c.ρ d v) : Still [i] env (env.set i (some (.val d))) σ (σ.set i (some v)) := by
  refine ⟨fun j hj => ?_, fun j hj => ?_, fun j hj o q => ?_, by simp⟩
  · rw [List.getElem?_set_ne (fun z => hj (by simp [z]))]
  · rw [List.getElem?_set_ne (fun z => hj (by simp [z]))]
  · have : j = i := by simpa using hj
    subst this
    rcases get_set q with ⟨_, e, _⟩ | ⟨hj, _⟩
    · cases e
    · exact hj rfl
theorem sim_gN (i : Nat) : SimG C (gName i) (gN i) [i] := by
  intro env σ c d v env' Q hR dn hm k
  have e : env.set i (some (.val d)) = env' := Option.some.inj hm
  subst e
  exact k _ (hR.set dn) (Rl.setStill i dn)
theorem sg_name (i : Nat) {x : Str} {pos : Pos} (hN : X.N.Nodup) (hi : X.N[i]? = some x := by rfl) (hx : Loc X.env.scope x := by first | exact .inl rfl | exact .inr rfl)
    (hf : X.fn x = true ∨ X.env.scope.names.lookup x = some .local := by first | exact .inl rfl | exact .inr rfl | assumption) : SG X C (.Name x pos) (gN i) [i] := ⟨_, pg_name hN hi hx hf, sim_gN i⟩
/-- several targets -/
abbrev GMs := List D → LE → Option LE
def SimGs (C : Ct) (g : TGs) (mg : GMs) (is : List Nat) : Prop :=
  ∀ env σ c ds vs env' Q, Rl C env σ c → DenL C c.G c.ρ ds vs → mg ds env = some env' → (∀ σ', Rl C env' σ' c → Still is env env' σ σ' → Q σ' c.H) → g vs σ c.H Q
structure SGs (X : Cx) (C : Ct) (es : List Expr) (mg : GMs) (is : List Nat) : Prop where
  out : ∃ g, PGs X es g ∧ SimGs C g mg is
def gsNil : GMs := fun ds env => match ds with
  | [] => some env
  | _ => none
def gsCons (g : GM) (r : GMs) : GMs := fun ds env => match ds with
  | d :: ds => (g d env).bind fun env' => r ds env'
  | [] => none
theorem Still.refl (env : LE) (σ : L2.St) : Still [] env env σ σ := ⟨fun _ _ => rfl, fun _ _ => rfl, fun _ h => absurd h (by simp), rfl⟩
theorem Still.trans {is js : List Nat} {env env1 env2 : LE} {σ σ1 σ2 : L2.St} (h : Still is env env1 σ σ1) (k : Still js env1 env2 σ1 σ2) : Still (is ++ js) env env2 σ σ2 := by
  refine ⟨fun j hj => ?_, fun j hj => ?_, fun j hj o => ?_, k.len.trans h.len⟩
  · rw [k.env j (fun z => hj (List.mem_append_right _ z)), h.env j (fun z => hj (List.mem_append_left _ z))]
  · rw [k.st j (fun z => hj (List.mem_append_right _ z)), h.st j (fun z => hj (List.mem_append_left _ z))]
  · by_cases h2 : j ∈ js
    · exact k.own j h2 o
    · rw [k.env j h2]
      rcases List.mem_append.mp hj with h1 | h1
      · exact h.own j h1 o
      · exact absurd h1 h2
theorem sgs_nil : SGs X C [] gsNil [] := ⟨_, pgs_nil, fun env σ c ds vs env' Q hR dn hm k => by
  cases ds with
  | nil =>
    have e : env = env' := Option.some.inj hm
    subst e
    have : vs = [] := by simpa only [DenL] using dn
    exact ⟨this, k σ hR (Still.refl _ _)⟩
  | cons d ds => cases hm⟩
theorem sgs_cons {e : Expr} {es : List Expr} {g : GM} {r : GMs} {is js : List Nat} (h : SG X C e g is) (h2 : SGs X C es r js) (hs : (assignEach (e :: es) X.env).map (·.2) = assign e X.env :: (assignEach es X.env).map (·.2) := by rfl) : SGs X C (e :: es) (gsCons g r) (is ++ js) := by
  obtain ⟨tg, p, s⟩ := h.out
  obtain ⟨ts, p2, s2⟩ := h2.out
  refine ⟨_, pgs_cons p p2 hs, fun env σ c ds vs env' Q hR dn hm k => ?_⟩
  cases ds with
  | nil => cases hm
  | cons d ds =>
    simp only [DenL] at dn
    obtain ⟨v, vr, rfl, d1, d2⟩ := dn
    obtain ⟨env1, e1, e2⟩ := Option.bind_eq_some_iff.mp hm
    exact ⟨v, vr, rfl, s env σ c d v env1 _ hR d1 e1 fun σ1 R1 S1 => s2 env1 σ1 c ds vr env' Q R1 d2 e2 fun σ2 R2 S2 => k σ2 R2 (S1.trans S2)⟩
def gTupM (n : Nat) (g : GMs) : GM := fun d env => match d with
  | .tup ds => if ds.length = n then g ds env else none
  | _ => none
theorem sg_tup {es : List Expr} {k : Nat} {g : GMs} {is : List Nat} {n : Nat} {pos : Pos} (hc : X.calm = true) (h : SGs X C es g is) (hK : X.K = C.K := by rfl)
    (hn : (assignEach es X.env).length = n := by rfl) (hst : (assignEach es X.env).findIdx? (·.1) = none := by rfl) : SG X C (.Tuple es k pos) (gTupM n g) is := by
  obtain ⟨tg, p, s⟩ := h.out
  refine ⟨_, pg_tup hc p hn hst, fun env σ c d v env' Q hR dn hm kk => ?_⟩
  cases d <;> first | cases hm; done | skip
  rename_i ds
  obtain ⟨a, vs, rfl, ha, l⟩ := dn
  have hm' : (if ds.length = n then g ds env else none) = some env' := hm
  by_cases hl : ds.length = n
  · rw [if_pos hl] at hm'
    exact ⟨a, vs, rfl, by rw [hK]; exact hR.wf.ext.sqt ha, l.length.trans hl, s env σ c ds vs env' Q hR l hm' kk⟩
  · rw [if_neg hl] at hm'
    cases hm'
end
end DL
set_option Elab.async false
set_option linter.all false
set_option maxRecDepth 100000
set_option maxHeartbeats 2000000
/-! # What is walked: loops, list comprehensions -/
namespace DL
open PySem L2
open PyProof.Rows hiding St
/-- the walk J goes through ds -/
def Walks (C : Ct) (c : Cf) (J : It) (ds : List D) : Prop := ∀ c2, Gr c.G c2.G → Pre c.ρ c2.ρ → WF C c2 → ∀ i : Nat,
  (∀ d, ds[i]? = some d → J.go i c2.H ∧ ∀ x H3, J.yld i c2.H x H3 → ∃ c3, c3.H = H3 ∧ c3.s = c2.s ∧ Ext c2 c3 ∧ WF C c3 ∧ Den C c3.G c3.ρ d x) ∧ (ds[i]? = none → J.stop i c2.H)
def SimI (C : Ct) (W : WX) (wi : TI) (m : LE → M (List D)) : Prop :=
  ∀ env σ c R, Rl C env σ c → Fn C c (m env c.s) (fun ds c' => ∀ J, Walks C c' J ds → R J c'.H) (fun a b H => W a b σ H) → wi σ c.H R
structure SI (X : Cx) (C : Ct) (W : WX) (tg iter : Expr) (m : LE → M (List D)) : Prop where
  out : ∃ wi, PI X tg iter wi ∧ SimI C W wi m
section
variable {X : Cx} {C : Ct} {c0 : Cf} {W : WX} {tg : Expr}
/-- a list, a tuple, a text -/
def iAny (K : PySem.W.Frag) (tl : TE) : TI := fun σ H R => tl σ H fun x H1 => (∃ a, x = .ref a ∧ (∃ xs, SqL K H1 a xs) ∧ R (Itl K a) H1) ∨ (∃ a, x = .ref a ∧ (∃ xs, SqT K H1 a xs) ∧ R (Itt K a) H1) ∨ ∃ z, x = .str z ∧ R (Its z) H1
theorem pi_any {l : Expr} {tl : TE} (hl : PE X l tl) : PI X tg l (iAny X.K tl) := by
  constructor
  intro pins s σ H R I h
  refine thn (hl.run pins s σ H _ I h) fun v s1 hv => ?_
  obtain ⟨x, H1, J1, rx, q⟩ := hv
  rcases q with ⟨a, rfl, ⟨xs, hq⟩, q⟩ | ⟨a, rfl, ⟨xs, hq⟩, q⟩ | ⟨z, rfl, q⟩
  · cases rx
    obtain ⟨its, _, pl, _⟩ := J1.list hq
    exact wpAny_pyIter_list pl.isList (pi_one (tk := s1.toks) J1 _ (turn_list a _) ⟨_, Heap.get?_push_size _ rfl, rfl, rfl⟩ q)
  · cases rx
    obtain ⟨its, _, pl, _⟩ := J1.tuple hq
    exact wpAny_pyIter_tuple (show s1.heap.IsTuple a its.toArray from pl) (pi_one (tk := s1.toks) J1 _ (turn_tuple a _) ⟨_, Heap.get?_push_size _ rfl, rfl, rfl⟩ q)
  · obtain ⟨t, rfl⟩ := rx
    cases wide : z.cps.all (· < 128) with
    | false => exact wpAny_pyIter_wide wide (pi_one (tk := s1.toks) J1 _ (turn_str _ z t "str_iterator" (.inr rfl)) ⟨_, Heap.get?_push_size _ rfl, rfl, rfl⟩ q)
    | true => exact wpAny_pyIter_ascii wide (pi_one (tk := s1.toks) J1 _ (turn_str _ z t "str_ascii_iterator" (.inl rfl)) ⟨_, Heap.get?_push_size _ rfl, rfl, rfl⟩ q)
theorem list_det {K : PySem.W.Frag} {G H : Hp} {a : Addr} {xs ys : List V} (h : G a = some (.lst xs)) (e : Gr G H) (k : SqL K H a ys) (n : K.lookup a = none) : ys = xs := by
  have e1 := e _ _ h
  rcases k with (k | ⟨o, k⟩) | ⟨o, its, m, k, _⟩
  · rw [e1] at k; cases k; rfl
  · rw [e1] at k; cases k
  · rw [n] at k; cases k
def signs (z : Str) : List D := z.cps.toList.map fun c => .str ⟨#[c]⟩
/-- the items that are walked; a cell's list is not walked here -/
def itemsOf : D → M (List D)
  | .lst ds => pure ds
  | .scr ns => pure (ns.map .int)
  | .tup ds => pure ds
  | .str z => pure (signs z)
  | _ => mStuck
theorem DenL.iff {G : Hp} {ρ : List Addr} {ds : List D} {vs : List V} (l : DenL C G ρ ds vs) (i : Nat) : (∀ d, ds[i]? = some d → ∃ v, vs[i]? = some v ∧ Den C G ρ d v) ∧ (ds[i]? = none → vs.length ≤ i) := by
  refine ⟨fun d e => l.get' e, fun e => ?_⟩
  rw [l.length]
  exact List.getElem?_eq_none_iff.mp e
theorem walks_list {c : Cf} {a : Addr} {ds : List D} {vs : List V} (ha : SqL C.K c.G a vs) (l : DenL C c.G c.ρ ds vs) : Walks C c (Itl C.K a) ds := by
  intro c2 g r w i
  obtain ⟨h1, h2⟩ := l.iff i
  have hq : SqL C.K c2.H a vs := (g.trans w.ext).sql ha
  refine ⟨fun d e => ?_, fun e => ⟨vs, hq, h2 e⟩⟩
  obtain ⟨v, e1, dn⟩ := h1 d e
  refine ⟨⟨vs, v, hq, e1⟩, fun x H3 y => ?_⟩
  obtain ⟨rfl, y⟩ := y
  have := y vs hq
  rw [e1] at this
  cases this
  exact ⟨c2, rfl, rfl, Ext.refl _, w, dn.mono g r⟩
theorem walks_tup {c : Cf} {a : Addr} {ds : List D} {vs : List V} (ha : SqT C.K c.G a vs) (l : DenL C c.G c.ρ ds vs) : Walks C c (Itt C.K a) ds := by
  intro c2 g r w i
  obtain ⟨h1, h2⟩ := l.iff i
  have hq : SqT C.K c2.H a vs := (g.trans w.ext).sqt ha
  refine ⟨fun d e => ?_, fun e => ⟨vs, hq, h2 e⟩⟩
  obtain ⟨v, e1, dn⟩ := h1 d e
  refine ⟨⟨vs, v, hq, e1⟩, fun x H3 y => ?_⟩
  obtain ⟨rfl, y⟩ := y
  have := y vs hq
  rw [e1] at this
  cases this
  exact ⟨c2, rfl, rfl, Ext.refl _, w, dn.mono g r⟩
theorem walks_str {c : Cf} (z : Str) : Walks C c (Its z) (signs z) := by
  intro c2 g r w i
  unfold signs
  refine ⟨fun d e => ?_, fun e => ?_⟩
  · rw [List.getElem?_map] at e
    cases q : z.cps.toList[i]? with
    | none => rw [q] at e; cases e
    | some n =>
      rw [q] at e
      simp only [Option.map_some, Option.some.injEq] at e
      subst e
      have q' : z.cps[i]? = some n := by simpa using q
      refine ⟨(Array.getElem?_eq_some_iff.mp q').1, fun x H3 y => ?_⟩
      obtain ⟨rfl, n', e2, rfl⟩ := y
      rw [q'] at e2
      cases e2
      exact ⟨c2, rfl, rfl, Ext.refl _, w, rfl⟩
  · rw [List.getElem?_map] at e
    have := Option.map_eq_none_iff.mp e
    show z.cps.size ≤ i
    have := List.getElem?_eq_none_iff.mp this
    simpa using this
def iItems (m : LE → M D) : LE → M (List D) := fun env => m env >>= itemsOf
theorem si_any {e : Expr} {m : LE → M D} (h : SE X C W e m) (hK : X.K = C.K := by rfl) : SI X C W tg e (iItems m) := by
  obtain ⟨t, p, s⟩ := h.out
  refine ⟨_, pi_any p, fun env σ c R hR hF => ?_⟩
  refine s env σ c _ hR (Fn.bind hF fun x c1 e1 w1 hF1 v dn => ?_)
  rw [hK]
  cases x <;> first | exact False.elim hF1 | skip
  · cases (show v = _ from dn)
    exact .inr (.inr ⟨_, rfl, Fn.ok w1 hF1 _ (walks_str _)⟩)
  · obtain ⟨a, vs, rfl, ha, l⟩ := dn
    exact .inr (.inl ⟨a, rfl, ⟨vs, w1.ext.sqt ha⟩, Fn.ok w1 hF1 _ (walks_tup ha l)⟩)
  · obtain ⟨a, vs, rfl, ha, l⟩ := dn
    exact .inl ⟨a, rfl, ⟨vs, SqL.of (w1.ext _ _ ha)⟩, Fn.ok w1 hF1 _ (walks_list (SqL.of ha) l)⟩
  · obtain ⟨a, rfl, ha⟩ := dn
    exact .inl ⟨a, rfl, ⟨_, w1.ext.sql ha⟩, Fn.ok w1 hF1 _ (walks_list ha (denInts _))⟩
def rangeD (lo hi : Int) : List D := (List.range (hi - lo).toNat).map fun i => .int (lo + (i : Nat))
theorem walks_range {c : Cf} (lo : Int) (n : Nat) : Walks C c (Itr lo n) ((List.range n).map fun i => .int (lo + (i : Nat))) := by
  intro c2 g r w i
  refine ⟨fun d e => ?_, fun e => ?_⟩
  · rw [List.getElem?_map] at e
    by_cases hi : i < n
    · rw [List.getElem?_range hi] at e
      cases e
      refine ⟨hi, fun x H3 y => ?_⟩
      obtain ⟨rfl, rfl⟩ := y
      exact ⟨c2, rfl, rfl, Ext.refl _, w, rfl⟩
    · rw [List.getElem?_eq_none (by simpa using hi)] at e
      cases e
  · have := List.getElem?_eq_none_iff.mp e
    show n ≤ i
    simpa using this
def rgOk (i : Int) : Bool := decide (-(2 ^ 62) ≤ i) && decide (i < 2 ^ 62)
theorem rgOk_iff {i : Int} (h : rgOk i = true) : -(2 ^ 62) ≤ i ∧ i < 2 ^ 62 := by
  unfold rgOk at h
  rw [Bool.and_eq_true] at h
  exact ⟨of_decide_eq_true h.1, of_decide_eq_true h.2⟩
def intOf : D → Option Int
  | .int i => some i
  | _ => none
def intsOf : List D → Option (List Int)
  | [] => some []
  | d :: ds => (intOf d).bind fun i => (intsOf ds).map (i :: ·)
theorem intsOf_den {G : Hp} {ρ : List Addr} : ∀ {ds : List D} {ns : List Int} {vs : List V}, intsOf ds = some ns → DenL C G ρ ds vs → vs = ns.map V.int
  | [], ns, vs, h, l => by
    cases h
    simp only [DenL] at l
    exact l
  | d :: ds, ns, vs, h, l => by
    simp only [DenL] at l
    obtain ⟨v, r, rfl, d1, d2⟩ := l
    obtain ⟨i, e1, e2⟩ := Option.bind_eq_some_iff.mp h
    obtain ⟨ms, e3, rfl⟩ := Option.map_eq_some_iff.mp e2
    cases d <;> first | (cases e1; done) | skip
    cases e1
    cases (show v = _ from d1)
    rw [intsOf_den e3 d2]
    rfl
def iRg1 (m : LE → M D) : LE → M (List D) := fun env => m env >>= fun d => optM (intOf d) >>= fun j => guardM (rgOk j) >>= fun _ => pure (rangeD 0 j)
def iRg2 (m n : LE → M D) : LE → M (List D) := fun env => m env >>= fun d => n env >>= fun d' => optM (intOf d) >>= fun i => optM (intOf d') >>= fun j => guardM (rgOk i && rgOk j) >>= fun _ => pure (rangeD i j)
theorem intOf_den {G : Hp} {ρ : List Addr} {d : D} {v : V} {i : Int} (h : intOf d = some i) (dn : Den C G ρ d v) : v = .int i := by
  cases d <;> first | (cases h; done) | skip
  cases h
  exact dn
theorem si_range1 {a : Expr} {m : LE → M D} {p pos : Pos} (hm : X.mg "range" = none) (h : SE X C W a m) (hg : Gl X "range" := by rfl) (hs : starEach [a] X.env = [(false, eval a X.env)] := by rfl) : SI X C W tg (.Call (.Name "range" p) [a] [] pos) (iRg1 m) := by
  obtain ⟨t, p, s⟩ := h.out
  refine ⟨_, pi_range1 hg hm (pa_cons p pa_nil hs) hs, fun env σ c R hR hF => ?_⟩
  refine s env σ c _ hR (Fn.bind hF fun d c1 e1 w1 hF1 v dn => ?_)
  obtain ⟨j, ej, hF2⟩ := Fn.optM hF1
  obtain ⟨hz, hF3⟩ := Fn.guard hF2
  obtain ⟨q1, q2⟩ := rgOk_iff hz
  refine ⟨j, by rw [intOf_den ej dn], q1, q2, Fn.ok w1 hF3 _ ?_⟩
  have := walks_range (C := C) (c := c1) 0 j.toNat
  unfold rangeD
  rw [Int.sub_zero]
  exact this
theorem si_range2 {a b : Expr} {m n : LE → M D} {p pos : Pos} (hm : X.mg "range" = none) (h : SE X C W a m) (k : SE X C W b n) (hg : Gl X "range" := by rfl) (hs : starEach [a, b] X.env = [(false, eval a X.env), (false, eval b X.env)] := by rfl)
    (hs2 : starEach [b] X.env = [(false, eval b X.env)] := by rfl) : SI X C W tg (.Call (.Name "range" p) [a, b] [] pos) (iRg2 m n) := by
  obtain ⟨t, p, s⟩ := h.out
  obtain ⟨t', p', s'⟩ := k.out
  refine ⟨_, pi_range2 hg hm (pa_cons p (pa_cons p' pa_nil hs2) (by rw [hs, hs2])) hs hs2, fun env σ c R hR hF => ?_⟩
  refine s env σ c _ hR (Fn.bind hF fun d c1 e1 w1 hF1 v dn => ?_)
  refine s' env σ c1 _ (hR.ext e1 w1) (Fn.bind hF1 fun d' c2 e2 w2 hF2 v' dn' => ?_)
  obtain ⟨i, ei, hF3⟩ := Fn.optM hF2
  obtain ⟨j, ej, hF4⟩ := Fn.optM hF3
  obtain ⟨hz, hF5⟩ := Fn.guard hF4
  rw [Bool.and_eq_true] at hz
  obtain ⟨q1, q2⟩ := rgOk_iff hz.1
  obtain ⟨q3, q4⟩ := rgOk_iff hz.2
  exact ⟨i, j, by rw [intOf_den ei dn, intOf_den ej dn'], ⟨q1, q2, q3, q4⟩, Fn.ok w2 hF5 _ (walks_range (C := C) (c := c2) i (j - i).toNat)⟩
/-- enumerate(l) -/
def enumD : Nat → List D → List D
  | _, [] => []
  | i, d :: ds => .tup [.int i, d] :: enumD (i + 1) ds
theorem enumD_get : ∀ (ds : List D) (k i : Nat), (enumD k ds)[i]? = (ds[i]?).map fun d => .tup [.int ((k + i : Nat) : Int), d]
  | [], k, i => by simp [enumD]
  | d :: ds, k, 0 => by simp [enumD]
  | d :: ds, k, i + 1 => by
    have := enumD_get ds (k + 1) i
    simp only [enumD, List.getElem?_cons_succ]
    rw [this]
    congr 2
    funext d
    congr 4
    omega
def listOf : D → M (List D)
  | .lst ds => pure ds
  | .scr ns => pure (ns.map .int)
  | _ => mStuck
theorem walks_enum {c : Cf} {a : Addr} {ds : List D} {vs : List V} (ha : SqL C.K c.G a vs) (l : DenL C c.G c.ρ ds vs) : Walks C c (Ite C.K a) (enumD 0 ds) := by
  intro c2 g r w i
  obtain ⟨h1, h2⟩ := l.iff i
  have hq : SqL C.K c2.H a vs := (g.trans w.ext).sql ha
  refine ⟨fun d e => ?_, fun e => ⟨vs, hq, h2 ?_⟩⟩
  · rw [enumD_get] at e
    cases q : ds[i]? with
    | none => rw [q] at e; cases e
    | some d' =>
      rw [q] at e
      simp only [Option.map_some, Option.some.injEq, Nat.zero_add] at e
      subst e
      obtain ⟨v, e1, dn⟩ := h1 d' q
      refine ⟨⟨vs, v, hq, e1⟩, fun x H3 y => ?_⟩
      obtain ⟨T, y0, rfl, hT, rfl, y⟩ := y
      have := y vs hq
      rw [e1] at this
      cases this
      obtain ⟨w3, e3⟩ := lay_frozen (o := .tup [.int (i : Nat), v]) w hT
      exact ⟨⟨_, _, c2.ρ, c2.s⟩, rfl, rfl, e3, w3, T, _, rfl, SqT.of upd_same, .cons rfl (.one ((dn.mono g r).mono e3.g e3.pre))⟩
  · rw [enumD_get] at e
    exact Option.map_eq_none_iff.mp e
def iEnumM (m : LE → M D) : LE → M (List D) := fun env => m env >>= fun d => listOf d >>= fun ds => pure (enumD 0 ds)
theorem si_enum {elts : List Expr} {kk : Nat} {tpos : Pos} {a : Expr} {m : LE → M D} {p pos : Pos} (hm : X.mg "enumerate" = none) (h : SE X C W a m) (hK : X.K = C.K := by rfl) (hg : Gl X "enumerate" := by rfl) (hs : starEach [a] X.env = [(false, eval a X.env)] := by rfl) :
    SI X C W (.Tuple elts kk tpos) (.Call (.Name "enumerate" p) [a] [] pos) (iEnumM m) := by
  obtain ⟨t, p, s⟩ := h.out
  refine ⟨_, pi_enum hg hm (pa_cons p pa_nil hs) hs, fun env σ c R hR hF => ?_⟩
  refine s env σ c _ hR (Fn.bind hF fun d c1 e1 w1 hF1 v dn => ?_)
  rw [hK]
  cases d <;> first | exact False.elim hF1 | skip
  · obtain ⟨a, vs, rfl, ha, l⟩ := dn
    exact ⟨a, vs, rfl, SqL.of (w1.ext _ _ ha), Fn.ok w1 hF1 _ (walks_enum (SqL.of ha) l)⟩
  · obtain ⟨a, rfl, ha⟩ := dn
    exact ⟨a, _, rfl, w1.ext.sql ha, Fn.ok w1 hF1 _ (walks_enum ha (denInts _))⟩

/-! ### for -/
def forM' (g : GM) (b : SM) : List D → SM
  | [], env, s => some (.nx env, s)
  | d :: ds, env, s => match g d env with
    | none => none
    | some env1 => match b env1 s with
      | some (.nx e, s') => forM' g b ds e s'
      | some (.ct e, s') => forM' g b ds e s'
      | some (.bk e, s') => some (.nx e, s')
      | r => r
def sFor (mi : LE → M (List D)) (g : GM) (b : SM) : SM := sE mi fun ds => forM' g b ds
theorem s1_for {iter : Expr} {body : List Stmt} {mi : LE → M (List D)} {g : GM} {is : List Nat} {b : SM} {pos : Pos} (hi : SI X C W tg iter mi) (hg : SG X C tg g is) (hb : SS X C c0 W body b) (hp : PassesOwn (model X.prog X.w) X.A X.env X.xe) (hc : X.calm = true := by rfl)
    (hs : ∀ x, foldedSetIterable iter X.env x = pure x := by intro _; rfl) : SS1 X C c0 W (.For tg iter body [] pos) (sFor mi g b) := by
  obtain ⟨wi, pi, si⟩ := hi.out
  obtain ⟨tg', pg, sg⟩ := hg.out
  obtain ⟨tb, pb, sb⟩ := hb.out
  refine ⟨_, ps_for hp hc pi pg pb hs, fun env σ c E hR hF => ?_⟩
  refine si env σ c _ hR.rl (hF.fn hR fun ds c1 e1 w1 hR1 hF1 J wk => ?_)
  let Inv : Nat → Nat → L2.St → Hp → Prop := fun i m σ H => ∃ env c, c.H = H ∧ RlS C c0 env σ c ∧ Since c1 c ∧ m = ds.length - i ∧ i ≤ ds.length ∧ FS C c0 c W E (forM' g b (ds.drop i) env c.s)
  refine ⟨Inv, ⟨ds.length, env, c1, rfl, hR1, Since.refl _, rfl, Nat.zero_le _, hF1⟩, ?_⟩
  rintro i m σ2 H2 ⟨env2, c2, rfl, hR2, g2, rfl, hi, hF2⟩
  obtain ⟨k1, k2⟩ := wk c2 g2.g g2.r hR2.rl.wf i
  cases e : ds[i]? with
  | none =>
    refine .inl ⟨k2 e, ?_⟩
    rw [List.drop_eq_nil_of_le (List.getElem?_eq_none_iff.mp e)] at hF2
    exact hF2 σ2 c2 rfl hR2 (Since.refl _)
  | some d =>
    obtain ⟨hlt, hd⟩ := List.getElem?_eq_some_iff.mp e
    have ed : ds.drop i = d :: ds.drop (i + 1) := by rw [List.drop_eq_getElem_cons hlt, hd]
    rw [ed] at hF2
    obtain ⟨go, yld⟩ := k1 d e
    refine .inr ⟨go, fun σ' H' => Inv (i + 1) (ds.length - (i + 1)) σ' H', fun σ' H' z => ⟨_, by omega, z⟩, fun x H3 y => ?_⟩
    obtain ⟨c3, rfl, es3, x3, w3, dn3⟩ := yld x H3 y
    have hR3 := hR2.step x3 w3
    have hF3 : FS C c0 c2 W E (match g d env2 with
      | none => none
      | some env1 => match b env1 c2.s with
        | some (.nx e, s') => forM' g b (ds.drop (i + 1)) e s'
        | some (.ct e, s') => forM' g b (ds.drop (i + 1)) e s'
        | some (.bk e, s') => some (.nx e, s')
        | r => r) := hF2
    cases eg : g d env2 with
    | none => rw [eg] at hF3; exact False.elim hF3
    | some env3 =>
      rw [eg] at hF3
      refine sg env2 σ2 c3 d x env3 _ hR3.rl dn3 eg fun σ3 R3 S3 => ?_
      have hR4 : RlS C c0 env3 σ3 c3 := S3.rls hR3 R3
      refine sb env3 σ3 c3 _ hR4 ?_
      rw [es3]
      have hF4 : FS C c0 c3 W E (match b env3 c2.s with
        | some (.nx e, s') => forM' g b (ds.drop (i + 1)) e s'
        | some (.ct e, s') => forM' g b (ds.drop (i + 1)) e s'
        | some (.bk e, s') => some (.nx e, s')
        | r => r) := FS.mono x3.since hF3
      have s13 : Since c1 c3 := g2.trans x3.since
      have again : ∀ (env' : LE) (s' : S), FS C c0 c3 W E (forM' g b (ds.drop (i + 1)) env' s') → ∀ σ' c', c'.s = s' → RlS C c0 env' σ' c' → Since c3 c' → Inv (i + 1) (ds.length - (i + 1)) σ' c'.H :=
        fun env' s' h σ' c' q R y => ⟨env', c', rfl, R, s13.trans y, rfl, hlt, by rw [q]; exact FS.mono y h⟩
      cases er : b env3 c2.s with
      | none => rw [er] at hF4; exact hF4
      | some p =>
        obtain ⟨f, s'⟩ := p
        rw [er] at hF4
        cases f with
        | nx env' => exact fun σ' c' q R y => again env' s' hF4 σ' c' q R y
        | ct env' => exact fun σ' c' q R y => again env' s' hF4 σ' c' q R y
        | bk env' => exact hF4
        | rt d => exact hF4
        | xc k fs env' => cases k <;> exact hF4

/-! ### list comprehensions -/
/-- nothing is let out -/
def noX {α : Type} (m : M α) : M α := fun s => match m s with
  | .ok a s' => .ok a s'
  | _ => .stuck
abbrev WN : WX := fun _ _ _ _ => False
theorem Fn.noX {c : Cf} {α β : Type} {m : M α} {f : α → M β} {K : β → Cf → Prop} {E E' : XK} {K1 : α → Cf → Prop} (h : Fn C c ((noX m >>= f) c.s) K E)
    (k : ∀ a c', Ext c c' → WF C c' → Fn C c (f a c'.s) K E → K1 a c') : Fn C c (m c.s) K1 E' := by
  have h' : Fn C c (R.bind (match m c.s with | .ok a s' => R.ok a s' | _ => R.stuck) f) K E := h
  cases e : m c.s with
  | ok a s' =>
    rw [e] at h'
    intro c' q x w
    exact k a c' x w (by rw [q]; exact h')
  | exc x fs s' => rw [e] at h'; exact False.elim h'
  | stuck => rw [e] at h'; exact False.elim h'
def wipeE (env : LE) : List Nat → LE
  | [] => env
  | v :: vs => (wipeE env vs).set v none
theorem Rl.wipe {env : LE} {σ : L2.St} {c : Cf} (h : Rl C env σ c) : ∀ vs, Rl C (wipeE env vs) (L2.wipe σ vs) c
  | [] => h
  | v :: vs => (Rl.wipe h vs).wipe1 v
theorem wipe_get {σ : L2.St} {j : Nat} : ∀ vs, j ∉ vs → (L2.wipe σ vs)[j]? = σ[j]?
  | [], _ => rfl
  | v :: vs, h => by
    unfold L2.wipe
    rw [List.getElem?_set_ne (fun z => h (by simp [z]))]
    exact wipe_get vs fun z => h (List.mem_cons_of_mem _ z)
theorem wipe_in {σ : L2.St} {j : Nat} : ∀ vs, j ∈ vs → j < σ.length → (L2.wipe σ vs)[j]? = some none
  | v :: vs, h, hl => by
    unfold L2.wipe
    by_cases hj : v = j
    · subst hj
      rw [List.getElem?_set_self (by rw [L2.wipe_length]; exact hl)]
    · rw [List.getElem?_set_ne hj]
      rcases List.mem_cons.mp h with h | h
      · exact absurd h.symm hj
      · exact wipe_in vs h hl
theorem wipe_same {σ σ' : L2.St} {vs : List Nat} (hl : σ'.length = σ.length) (h : ∀ j, j ∉ vs → σ'[j]? = σ[j]?) : L2.wipe σ' vs = L2.wipe σ vs := by
  apply List.ext_getElem?
  intro j
  by_cases hj : j ∈ vs
  · by_cases hj2 : j < σ.length
    · rw [wipe_in vs hj hj2, wipe_in vs hj (by rw [hl]; exact hj2)]
    · rw [List.getElem?_eq_none (by rw [L2.wipe_length, hl]; omega), List.getElem?_eq_none (by rw [L2.wipe_length]; omega)]
  · rw [wipe_get vs hj, wipe_get vs hj, h j hj]
def lcM (g : GM) (t : LE → M Bool) (e : LE → M D) (env : LE) : List D → List D → M (List D)
  | [], acc => pure acc
  | d :: ds, acc => match g d env with
    | none => mStuck
    | some env1 => t env1 >>= fun b => if b = true then e env1 >>= fun y => guardM (szOk acc.length) >>= fun _ => lcM g t e env ds (acc ++ [y]) else lcM g t e env ds acc
def tTrue : LE → M Bool := fun _ => pure true
def nLc (mi : LE → M (List D)) (g : GM) (t : LE → M Bool) (e : LE → M D) (own : List Nat) : LE → M O := fun env => mi env >>= fun ds => noX (lcM g t e (wipeE env own) ds []) >>= fun r => pure (.lst r)
/-- the tests of a clause -/
structure STs (X : Cx) (C : Ct) (W : WX) (ifs : List Expr) (m : LE → M Bool) : Prop where
  out : ∃ t, PTs X ifs t ∧ SimT C W t m
theorem sts_nil : STs X C W [] tTrue := ⟨_, pts_nil, fun env σ c Q hR hF => Fn.ok hR.wf hF⟩
theorem sts_one {c : Expr} {m : LE → M Bool} (h : STe X C W c m) : STs X C W [c] m := by
  obtain ⟨t, p, s⟩ := h.out
  exact ⟨_, pts_one p, s⟩
end
end DL
set_option Elab.async false
set_option linter.all false
set_option maxRecDepth 100000
set_option maxHeartbeats 2000000
/-! # List comprehensions; built-ins -/
namespace DL
open PySem L2
open PyProof.Rows hiding St
section
variable {X : Cx} {C : Ct} {c0 : Cf} {W : WX} {tg : Expr}
/-- a list in the making, at p, behind b -/
structure Mkg (C : Ct) (b c : Cf) (p : Addr) (acc : List D) : Prop where
  ext : Ext b c
  wf : WF C c
  fresh : b.H p = none
  g : c.G p = none
  r : p ∉ c.ρ
  at' : ∃ vs, c.H p = some (.lst vs) ∧ DenL C c.G c.ρ acc vs
theorem Mkg.start {b : Cf} {p : Addr} (w : WF C b) (hp : b.H p = none) : Mkg C b ⟨upd b.H p (.lst []), b.G, b.ρ, b.s⟩ p [] := by
  obtain ⟨w2, e2⟩ := lay_new (o := .lst []) w hp
  exact ⟨e2, w2, hp, w.gfree hp, w.rfree hp, [], upd_same, .nil⟩
theorem Mkg.step {b c c' : Cf} {p : Addr} {acc : List D} (h : Mkg C b c p acc) (e : Ext c c') (w : WF C c') : Mkg C b c' p acc := by
  obtain ⟨vs, h1, h2⟩ := h.at'
  refine ⟨h.ext.trans e, w, h.fresh, e.fr p h.g (by rw [h1]; simp), ?_, vs, e.kp p _ h1 h.r, h2.mono e.g e.pre⟩
  obtain ⟨m, em, fm⟩ := e.pr
  rw [em]
  intro hm
  rcases List.mem_append.mp hm with hm | hm
  · exact h.r hm
  · have := fm p hm
    rw [h1] at this
    cases this
theorem Mkg.push {b c : Cf} {p : Addr} {acc : List D} {d : D} {v : V} {vs : List V} (h : Mkg C b c p acc) (hv : c.H p = some (.lst vs)) (dn : Den C c.G c.ρ d v) : Mkg C b ⟨upd c.H p (.lst (vs ++ [v])), c.G, c.ρ, c.s⟩ p (acc ++ [d]) := by
  obtain ⟨vs', h1, h2⟩ := h.at'
  rw [hv] at h1
  cases h1
  have w := h.wf
  refine ⟨⟨h.ext.g, h.ext.fr, fun x u e nx => ?_, fun x dd => ?_, h.ext.pr⟩, ⟨fun x u e => ?_, w.len, w.nd, fun x hx => ?_, fun m u e => ?_⟩, h.fresh, h.g, h.r, _, upd_same, h2.append (.one dn)⟩
  · have ne : x ≠ p := fun z => by subst z; rw [h.fresh] at e; cases e
    show upd c.H p _ x = some u
    rw [upd_ne ne]
    exact h.ext.kp x u e nx
  · have ne : x ≠ p := fun z => by subst z; exact dd h.fresh
    show upd c.H p _ x ≠ none
    rw [upd_ne ne]
    exact h.ext.dom x dd
  · have ne : x ≠ p := fun z => by subst z; have e' : c.G x = some u := e; rw [h.g] at e'; cases e'
    show upd c.H p _ x = some u
    rw [upd_ne ne]
    exact w.ext x u e
  · have ne : x ≠ p := fun z => by subst z; exact h.r hx
    show upd c.H p _ x ≠ none
    rw [upd_ne ne]
    exact w.dom x hx
  · obtain ⟨x, hx, r1, r2, r3, r4⟩ := w.cel m u e
    have ne : x ≠ p := fun z => by subst z; exact h.r (List.mem_of_getElem? r1)
    exact ⟨x, hx, r1, r2, by show upd c.H p _ x = _; rw [upd_ne ne]; exact r3, r4⟩
theorem sim_lc {wi : TI} {g : TG} {tt : TT} {te : TE} {mi : LE → M (List D)} {mg : GM} {is own : List Nat} {mt : LE → M Bool} {me : LE → M D} (si : SimI C W wi mi) (sg : SimG C g mg is) (st : SimT C WN tt mt) (se : SimE C WN te me) (sub : ∀ i ∈ is, i ∈ own) :
    SimN C W (tLc wi g tt te own) (nLc mi mg mt me own) := by
  intro env σ c Q hR hF
  refine si env σ c _ hR (Fn.bind0 hF fun ds c1 e1 w1 hF1 J wk p hp => ?_)
  have R1 := (hR.ext e1 w1).wipe own
  -- all turns, without an exception
  have hF2 : Fn C c1 (lcM mg mt me (wipeE env own) ds [] c1.s) (fun r c' => ∀ p', Mkg C c1 c' p' r → Q (.ref p') c'.H) (fun _ _ _ => False) := by
    refine Fn.noX (Fn.mono e1 hF1) fun r c' e' w' hF3 p' mk => ?_
    have e2 := e1.trans e'
    have hk := hF3 c' rfl e' w'
    obtain ⟨vs, h1, h2⟩ := mk.at'
    exact hk p' ⟨e1.free mk.fresh, mk.g, mk.r, _, h1, vs, rfl, h2⟩
  let Inv : Nat → Nat → Hp → Prop := fun i m H => ∃ c2 acc, c2.H = H ∧ Mkg C c1 c2 p acc ∧ m = ds.length - i ∧ i ≤ ds.length ∧ Fn C c1 (lcM mg mt me (wipeE env own) (ds.drop i) acc c2.s) (fun r c' => ∀ p', Mkg C c1 c' p' r → Q (.ref p') c'.H) (fun _ _ _ => False)
  refine ⟨Inv, ⟨ds.length, _, [], rfl, .start w1 hp, rfl, Nat.zero_le _, hF2⟩, ?_⟩
  rintro i m H2 ⟨c2, acc, rfl, mk, rfl, hi, hFi⟩
  obtain ⟨k1, k2⟩ := wk c2 mk.ext.g mk.ext.pre mk.wf i
  cases e : ds[i]? with
  | none =>
    refine .inl ⟨k2 e, ?_⟩
    rw [List.drop_eq_nil_of_le (List.getElem?_eq_none_iff.mp e)] at hFi
    exact hFi c2 rfl mk.ext mk.wf p mk
  | some d =>
    obtain ⟨hlt, hd⟩ := List.getElem?_eq_some_iff.mp e
    have ed : ds.drop i = d :: ds.drop (i + 1) := by rw [List.drop_eq_getElem_cons hlt, hd]
    rw [ed] at hFi
    obtain ⟨go, yld⟩ := k1 d e
    refine .inr ⟨go, fun H' => Inv (i + 1) (ds.length - (i + 1)) H', fun H' z => ⟨_, by omega, z⟩, fun x H3 y => ?_⟩
    obtain ⟨c3, rfl, es3, x3, w3, dn3⟩ := yld x H3 y
    have mk3 := mk.step x3 w3
    have R3 := R1.ext (mk.ext.trans x3) w3
    unfold lcM at hFi
    cases eg : mg d (wipeE env own) with
    | none => rw [eg] at hFi; exact False.elim hFi
    | some env3 =>
      rw [eg] at hFi
      refine sg _ _ c3 d x env3 _ R3 dn3 eg fun σ3 R4 S4 => ⟨?_, ?_⟩
      · have hw : L2.wipe (L2.wipe σ own) own = L2.wipe σ own := wipe_same (L2.wipe_length σ own) fun j hj => wipe_get own hj
        rw [← hw]
        exact wipe_same (S4.len) fun j hj => S4.st j fun z => hj (sub j z)
      · have hFt : Fn C c3 ((mt env3 >>= fun b => if b = true then me env3 >>= fun y => guardM (szOk acc.length) >>= fun _ => lcM mg mt me (wipeE env own) (ds.drop (i + 1)) (acc ++ [y]) else lcM mg mt me (wipeE env own) (ds.drop (i + 1)) acc) c3.s)
            (fun r c' => ∀ p', Mkg C c1 c' p' r → Q (.ref p') c'.H) (fun _ _ _ => False) := by
          rw [es3]
          exact Fn.mono (mk.ext.trans x3) hFi
        -- the rest is told from c1 on
        have hFt0 : Fn C c1 ((mt env3 >>= fun b => if b = true then me env3 >>= fun y => guardM (szOk acc.length) >>= fun _ => lcM mg mt me (wipeE env own) (ds.drop (i + 1)) (acc ++ [y]) else lcM mg mt me (wipeE env own) (ds.drop (i + 1)) acc) c3.s)
            (fun r c' => ∀ p', Mkg C c1 c' p' r → Q (.ref p') c'.H) (fun _ _ _ => False) := by
          rw [es3]
          exact hFi
        have b3 : Ext c1 c3 := mk.ext.trans x3
        refine st env3 σ3 c3 _ R4 ?_
        cases et : mt env3 c3.s with
        | stuck =>
          have := hFt0
          rw [bind_def, et] at this
          exact this
        | exc k fs s' =>
          have q := hFt
          rw [bind_def, et] at q
          exact Fn.excK q
        | ok b s4 =>
          intro c4 q4 x4 w4
          have hF4 : Fn C c1 ((if b = true then me env3 >>= fun y => guardM (szOk acc.length) >>= fun _ => lcM mg mt me (wipeE env own) (ds.drop (i + 1)) (acc ++ [y]) else lcM mg mt me (wipeE env own) (ds.drop (i + 1)) acc) c4.s)
              (fun r c' => ∀ p', Mkg C c1 c' p' r → Q (.ref p') c'.H) (fun _ _ _ => False) := by
            have := hFt0
            rw [bind_def, et] at this
            rw [q4]
            exact this
          have mk4 := mk3.step x4 w4
          cases b with
          | false => exact iteF ⟨c4, acc, rfl, mk4, rfl, hlt, hF4⟩
          | true =>
            refine iteT ?_
            refine se env3 σ3 c4 _ (R4.ext x4 w4) ?_
            have hF5 : Fn C c1 ((me env3 >>= fun y => guardM (szOk acc.length) >>= fun _ => lcM mg mt me (wipeE env own) (ds.drop (i + 1)) (acc ++ [y])) c4.s)
              (fun r c' => ∀ p', Mkg C c1 c' p' r → Q (.ref p') c'.H) (fun _ _ _ => False) := hF4
            cases ee : me env3 c4.s with
            | stuck =>
              rw [bind_def, ee] at hF5
              exact hF5
            | exc k fs s' =>
              rw [bind_def, ee] at hF5
              exact Fn.mono (b3.trans x4) (Fn.excK hF5)
            | ok y s5 =>
              intro c5 q5 x5 w5 v dv
              rw [bind_def, ee] at hF5
              have hF6 : Fn C c1 ((guardM (szOk acc.length) >>= fun _ => lcM mg mt me (wipeE env own) (ds.drop (i + 1)) (acc ++ [y])) s5)
                (fun r c' => ∀ p', Mkg C c1 c' p' r → Q (.ref p') c'.H) (fun _ _ _ => False) := hF5
              have mk5 := mk4.step x5 w5
              obtain ⟨vs, h1, h2⟩ := mk5.at'
              cases hz : szOk acc.length with
              | false => rw [hz] at hF6; exact False.elim hF6
              | true =>
                rw [hz] at hF6
                refine ⟨vs, h1, by rw [h2.length]; exact szOk_lt hz, ⟨_, _, rfl, mk5.push h1 dv, rfl, hlt, ?_⟩⟩
                show Fn C c1 (lcM mg mt me (wipeE env own) (ds.drop (i + 1)) (acc ++ [y]) c5.s) _ _
                rw [q5]
                exact hF6
theorem sn_lc {elt iter : Expr} {ifs : List Expr} {scope : Scope} {own : List (Str × Nat)} {pos : Pos} {mi : LE → M (List D)} {mg : GM} {is : List Nat} {mt : LE → M Bool} {me : LE → M D} (hi : SI X C W tg iter mi) (hN : X.N.Nodup) (ok : BlkOk X.N X.env.scope scope own)
    (hg : ∃ g, (∀ (s : Shared) (H : Hp) (c : Addr) (cl : List (Str × Addr)) (fp : List Addr), PG (X.blk s H scope (compEnvC scope cl c X.env) fp) tg g) ∧ SimG C g mg is)
    (ht : ∃ t, (∀ (s : Shared) (H : Hp) (c : Addr) (cl : List (Str × Addr)) (fp : List Addr), PTs (X.blk s H scope (compEnvC scope cl c X.env) fp) ifs t) ∧ SimT C WN t mt)
    (he : ∃ t, (∀ (s : Shared) (H : Hp) (c : Addr) (cl : List (Str × Addr)) (fp : List Addr), PE (X.blk s H scope (compEnvC scope cl c X.env) fp) elt t) ∧ SimE C WN t me)
    (sub : (is.all fun i => decide (i ∈ own.map (·.2))) = true) (hc : X.calm = true := by rfl) (hs : ∀ x, foldedSetIterable iter X.env x = pure x := by intro _; rfl) :
    SN X C W (.ListComp elt [⟨tg, iter, ifs, 0⟩] scope pos) (nLc mi mg mt me (own.map (·.2))) := by
  obtain ⟨wi, pi, si⟩ := hi.out
  obtain ⟨g, pg, sg⟩ := hg
  obtain ⟨tt, pt, st⟩ := ht
  obtain ⟨te, pe, se⟩ := he
  exact ⟨_, pe_lc hc hN pi ok pg pt pe hs, sim_lc si sg st se fun i hi => of_decide_eq_true (List.all_eq_true.mp sub i hi)⟩
end
end DL
set_option Elab.async false
set_option linter.all false
set_option maxRecDepth 100000
set_option maxHeartbeats 2000000
/-! # Readings that hang on the mirror alone; built-ins by name -/
namespace DL
open PySem L2
open PyProof.Rows hiding St
section
variable {X : Cx} {C : Ct} {c0 : Cf} {W : WX} {tg : Expr}
def tE (C : Ct) (W : WX) (m : LE → M D) : TE := fun σ H Q => ∃ env c, c.H = H ∧ Rl C env σ c ∧ Fn C c (m env c.s) (KD C Q) (fun a b H => W a b σ H)
theorem sim_tE {m : LE → M D} : SimE C W (tE C W m) m := fun env σ c Q hR hF => ⟨env, c, rfl, hR, hF⟩
theorem SE.canon {e : Expr} {m : LE → M D} (h : SE X C W e m) : PE X e (tE C W m) := by
  obtain ⟨t, p, s⟩ := h.out
  refine ⟨fun pins st σ H Q I h => ?_⟩
  obtain ⟨env, c, rfl, hR, hF⟩ := h
  exact p.run pins st σ c.H Q I (s env σ c Q hR hF)
def tT (C : Ct) (W : WX) (m : LE → M Bool) : TT := fun σ H Q => ∃ env c, c.H = H ∧ Rl C env σ c ∧ Fn C c (m env c.s) (KB Q) (fun a b H => W a b σ H)
theorem sim_tT {m : LE → M Bool} : SimT C W (tT C W m) m := fun env σ c Q hR hF => ⟨env, c, rfl, hR, hF⟩
theorem STs.canon {e : List Expr} {m : LE → M Bool} (h : STs X C W e m) : PTs X e (tT C W m) := by
  obtain ⟨t, p, s⟩ := h.out
  refine ⟨fun pins st σ H Q I h => ?_⟩
  obtain ⟨env, c, rfl, hR, hF⟩ := h
  exact p.run pins st σ c.H Q I (s env σ c Q hR hF)
def tG (C : Ct) (mg : GM) (is : List Nat) : TG := fun v σ H Q => ∃ env c d env', c.H = H ∧ Rl C env σ c ∧ Den C c.G c.ρ d v ∧ mg d env = some env' ∧ ∀ σ', Rl C env' σ' c → Still is env env' σ σ' → Q σ' c.H
theorem sim_tG {mg : GM} {is : List Nat} : SimG C (tG C mg is) mg is := fun env σ c d v env' Q hR dn e k => ⟨env, c, d, env', rfl, hR, dn, e, k⟩
theorem SG.canon {e : Expr} {mg : GM} {is : List Nat} (h : SG X C e mg is) : PG X e (tG C mg is) := by
  obtain ⟨t, p, s⟩ := h.out
  refine ⟨fun pins st σ H v u Q I r h => ?_⟩
  obtain ⟨env, c, d, env', rfl, hR, dn, e, k⟩ := h
  exact p.run pins st σ c.H v u Q I r (s env σ c d v env' Q hR dn e k)
/-- a list comprehension of one clause -/
theorem sn_comp {elt iter : Expr} {ifs : List Expr} {scope : Scope} (own : List (Str × Nat)) {pos : Pos} {mi : LE → M (List D)} {mg : GM} {is : List Nat} {mt : LE → M Bool} {me : LE → M D} (hi : SI X C W tg iter mi) (hN : X.N.Nodup) (ok : blkC X.N X.env.scope scope own = true)
    (hg : ∀ (s : Shared) (H : Hp) (c : Addr) (cl : List (Str × Addr)) (fp : List Addr), SG (X.blk s H scope (compEnvC scope cl c X.env) fp) C tg mg is)
    (ht : ∀ (s : Shared) (H : Hp) (c : Addr) (cl : List (Str × Addr)) (fp : List Addr), STs (X.blk s H scope (compEnvC scope cl c X.env) fp) C WN ifs mt)
    (he : ∀ (s : Shared) (H : Hp) (c : Addr) (cl : List (Str × Addr)) (fp : List Addr), SE (X.blk s H scope (compEnvC scope cl c X.env) fp) C WN elt me)
    (sub : (is.all fun i => decide (i ∈ own.map (·.2))) = true := by rfl) (hc : X.calm = true := by rfl) (hs : ∀ x, foldedSetIterable iter X.env x = pure x := by intro _; rfl) :
    SN X C W (.ListComp elt [⟨tg, iter, ifs, 0⟩] scope pos) (nLc mi mg mt me (own.map (·.2))) :=
  sn_lc hi hN (blkOk_by ok) ⟨_, fun s H c cl fp => (hg s H c cl fp).canon, sim_tG⟩ ⟨_, fun s H c cl fp => (ht s H c cl fp).canon, sim_tT⟩ ⟨_, fun s H c cl fp => (he s H c cl fp).canon, sim_tE⟩ sub hc hs
/-- name = [..] on one line: a slot of its own -/
theorem s1_comp (i : Nat) {y : Str} {py : Pos} {elt iter : Expr} {ifs : List Expr} {scope : Scope} (own : List (Str × Nat)) {pos spos : Pos} {mi : LE → M (List D)} {mg : GM} {is : List Nat} {mt : LE → M Bool} {me : LE → M D} (hi : SI X C W tg iter mi) (hN : X.N.Nodup) (ok : blkC X.N X.env.scope scope own = true)
    (hg : ∀ (s : Shared) (H : Hp) (c : Addr) (cl : List (Str × Addr)) (fp : List Addr), SG (X.blk s H scope (compEnvC scope cl c X.env) fp) C tg mg is)
    (ht : ∀ (s : Shared) (H : Hp) (c : Addr) (cl : List (Str × Addr)) (fp : List Addr), STs (X.blk s H scope (compEnvC scope cl c X.env) fp) C WN ifs mt)
    (he : ∀ (s : Shared) (H : Hp) (c : Addr) (cl : List (Str × Addr)) (fp : List Addr), SE (X.blk s H scope (compEnvC scope cl c X.env) fp) C WN elt me)
    (hy : X.N[i]? = some y := by rfl) (hyl : X.env.scope.names.lookup y = some .local := by rfl)
    (hsw : swapsWith (.ListComp elt [⟨tg, iter, ifs, 0⟩] scope pos) (some (.Name y py)) spos.line X.env = pure true := by exact sw_true rfl rfl rfl (by decide +kernel))
    (sub : (is.all fun i => decide (i ∈ own.map (·.2))) = true := by rfl) (hc : X.calm = true := by rfl) (hs : ∀ x, foldedSetIterable iter X.env x = pure x := by intro _; rfl) :
    SS1 X C c0 W (.Assign [.Name y py] (.ListComp elt [⟨tg, iter, ifs, 0⟩] scope pos) spos) (sOwn i (nLc mi mg mt me (own.map (·.2)))) := by
  obtain ⟨wi, pi, si⟩ := hi.out
  refine ⟨_, ps_setLc hc hN hy hyl hsw pi (blkOk_by ok) (fun s H c cl fp => (hg s H c cl fp).canon) (fun s H c cl fp => (ht s H c cl fp).canon) (fun s H c cl fp => (he s H c cl fp).canon) hs, fun env σ c E hR hF => ?_⟩
  have sn := sim_lc (W := W) (is := is) (own := own.map (·.2)) (mg := mg) (mt := mt) (me := me) si sim_tG sim_tT sim_tE (fun i hi => of_decide_eq_true (List.all_eq_true.mp sub i hi))
  exact sn env σ c (fun x H1 => gName i x σ H1 E.nx) hR.rl (hF.fn hR fun d c' x w hR' hF' p n => hF' _ c' rfl (hR.own x w n) (Since.refl _))

/-! ### calls of built-ins -/
def SimC (C : Ct) (r : List V → Hp → VK → Prop) (f : List D → M D) : Prop :=
  ∀ c ds vs Q E, WF C c → DenL C c.G c.ρ ds vs → Fn C c (f ds c.s) (KD C Q) E → r vs c.H Q
def SimCN (C : Ct) (r : List V → Hp → VK → Prop) (f : List D → M O) : Prop :=
  ∀ c ds vs Q E, WF C c → DenL C c.G c.ρ ds vs → Fn C c (f ds c.s) (KN C c Q) E → r vs c.H Q
def eB {α : Type} (f : List D → M α) (ma : LE → M (List D)) : LE → M α := fun env => ma env >>= f
theorem sim_cb {r : List V → Hp → VK → Prop} {f : List D → M D} {t : TA} {ma : LE → M (List D)} (hf : SimC C r f) (sa : SimA C W t ma) : SimE C W (tCB r t) (eB f ma) := by
  intro env σ c Q hR hF
  exact sa env σ c _ hR (Fn.bind hF fun ds c1 e1 w1 hF1 vs dn => hf c1 ds vs Q _ w1 dn hF1)
theorem sim_cbN {r : List V → Hp → VK → Prop} {f : List D → M O} {t : TA} {ma : LE → M (List D)} (hf : SimCN C r f) (sa : SimA C W t ma) : SimN C W (tCB r t) (eB f ma) := by
  intro env σ c Q hR hF
  refine sa env σ c _ hR (Fn.bind hF fun ds c1 e1 w1 hF1 vs dn => hf c1 ds vs Q _ w1 dn (hF1.imp fun o c' x w k p n => k p ⟨e1.free n.fresh, n.g, n.r, n.at'⟩))
theorem se_callB {r : List V → Hp → VK → Prop} {f : List D → M D} {id : String} {x : Str} {p pos : Pos} {e : Expr} {es : List Expr} {ma : LE → M (List D)} (hc : CallR X (.builtin id) r) (hf : SimC C r f) (hm : X.mg x = none) (hv : bootBuiltins x = some (.builtin id)) (ha : SA X C W (e :: es) ma)
    (hg : Gl X x := by rfl) (hn : x ≠ "__name__" := by decide) (hdb : (x == ("__debug__" : Str)) = false := by decide) (he : starEach (e :: es) X.env = (false, eval e X.env) :: starEach es X.env := by rfl) (hpl : (backTo pos (starEach es X.env)).any (·.1) = false := by rfl) :
    SE X C W (.Call (.Name x p) (e :: es) [] pos) (eB f ma) := by
  obtain ⟨t, pa, sa⟩ := ha.out
  exact ⟨_, pe_callB hc hg hm hv pa hn hdb he hpl, sim_cb hf sa⟩
theorem sn_callB {r : List V → Hp → VK → Prop} {f : List D → M O} {id : String} {x : Str} {p pos : Pos} {e : Expr} {es : List Expr} {ma : LE → M (List D)} (hc : CallR X (.builtin id) r) (hf : SimCN C r f) (hm : X.mg x = none) (hv : bootBuiltins x = some (.builtin id)) (ha : SA X C W (e :: es) ma)
    (hg : Gl X x := by rfl) (hn : x ≠ "__name__" := by decide) (hdb : (x == ("__debug__" : Str)) = false := by decide) (he : starEach (e :: es) X.env = (false, eval e X.env) :: starEach es X.env := by rfl) (hpl : (backTo pos (starEach es X.env)).any (·.1) = false := by rfl) :
    SN X C W (.Call (.Name x p) (e :: es) [] pos) (eB f ma) := by
  obtain ⟨t, pa, sa⟩ := ha.out
  exact ⟨_, pe_callB hc hg hm hv pa hn hdb he hpl, sim_cbN hf sa⟩
theorem se_callT {r : List V → Hp → VK → Prop} {f : List D → M D} {T : String} {x : Str} {p pos : Pos} {e : Expr} {es : List Expr} {ma : LE → M (List D)} (hc : CallR X (.type T) r) (hf : SimC C r f) (hm : X.mg x = none) (hv : bootBuiltins x = some (.type T)) (ha : SA X C W (e :: es) ma)
    (hg : Gl X x := by rfl) (hn : x ≠ "__name__" := by decide) (hdb : (x == ("__debug__" : Str)) = false := by decide) (he : starEach (e :: es) X.env = (false, eval e X.env) :: starEach es X.env := by rfl) (hpl : (backTo pos (starEach es X.env)).any (·.1) = false := by rfl) :
    SE X C W (.Call (.Name x p) (e :: es) [] pos) (eB f ma) := by
  obtain ⟨t, pa, sa⟩ := ha.out
  exact ⟨_, pe_callTy hc hg hm hv pa hn hdb he hpl, sim_cb hf sa⟩
theorem sn_callT {r : List V → Hp → VK → Prop} {f : List D → M O} {T : String} {x : Str} {p pos : Pos} {e : Expr} {es : List Expr} {ma : LE → M (List D)} (hc : CallR X (.type T) r) (hf : SimCN C r f) (hm : X.mg x = none) (hv : bootBuiltins x = some (.type T)) (ha : SA X C W (e :: es) ma)
    (hg : Gl X x := by rfl) (hn : x ≠ "__name__" := by decide) (hdb : (x == ("__debug__" : Str)) = false := by decide) (he : starEach (e :: es) X.env = (false, eval e X.env) :: starEach es X.env := by rfl) (hpl : (backTo pos (starEach es X.env)).any (·.1) = false := by rfl) :
    SN X C W (.Call (.Name x p) (e :: es) [] pos) (eB f ma) := by
  obtain ⟨t, pa, sa⟩ := ha.out
  exact ⟨_, pe_callTy hc hg hm hv pa hn hdb he hpl, sim_cbN hf sa⟩
/-- one argument, two -/
theorem den1 {G : Hp} {ρ : List Addr} {d : D} {vs : List V} (h : DenL C G ρ [d] vs) : ∃ v, vs = [v] ∧ Den C G ρ d v := by
  simp only [DenL] at h
  obtain ⟨v, r, rfl, h1, rfl⟩ := h
  exact ⟨v, rfl, h1⟩
theorem den2 {G : Hp} {ρ : List Addr} {d e : D} {vs : List V} (h : DenL C G ρ [d, e] vs) : ∃ v w, vs = [v, w] ∧ Den C G ρ d v ∧ Den C G ρ e w := by
  simp only [DenL] at h
  obtain ⟨v, r, rfl, h1, w, r', rfl, h2, rfl⟩ := h
  exact ⟨v, w, rfl, h1, h2⟩
/-- a mirror of one argument -/
def on1 {α : Type} (f : D → M α) : List D → M α
  | [d] => f d
  | _ => mStuck
def on2 {α : Type} (f : D → D → M α) : List D → M α
  | [d, e] => f d e
  | _ => mStuck
theorem simC1 {r : List V → Hp → VK → Prop} {f : D → M D} (h : ∀ c d v Q E, WF C c → Den C c.G c.ρ d v → Fn C c (f d c.s) (KD C Q) E → r [v] c.H Q) : SimC C r (on1 f) := by
  intro c ds vs Q E w dn hF
  match ds, dn, hF with
  | [], _, hF => exact False.elim hF
  | [d], dn, hF =>
    obtain ⟨v, rfl, h1⟩ := den1 dn
    exact h c d v Q E w h1 hF
  | _ :: _ :: _, _, hF => exact False.elim hF
theorem simC2 {r : List V → Hp → VK → Prop} {f : D → D → M D} (h : ∀ c d e v u Q E, WF C c → Den C c.G c.ρ d v → Den C c.G c.ρ e u → Fn C c (f d e c.s) (KD C Q) E → r [v, u] c.H Q) : SimC C r (on2 f) := by
  intro c ds vs Q E w dn hF
  match ds, dn, hF with
  | [], _, hF => exact False.elim hF
  | [_], _, hF => exact False.elim hF
  | [d, e], dn, hF =>
    obtain ⟨v, u, rfl, h1, h2⟩ := den2 dn
    exact h c d e v u Q E w h1 h2 hF
  | _ :: _ :: _ :: _, _, hF => exact False.elim hF
theorem simCN1 {r : List V → Hp → VK → Prop} {f : D → M O} (h : ∀ c d v Q E, WF C c → Den C c.G c.ρ d v → Fn C c (f d c.s) (KN C c Q) E → r [v] c.H Q) : SimCN C r (on1 f) := by
  intro c ds vs Q E w dn hF
  match ds, dn, hF with
  | [], _, hF => exact False.elim hF
  | [d], dn, hF =>
    obtain ⟨v, rfl, h1⟩ := den1 dn
    exact h c d v Q E w h1 hF
  | _ :: _ :: _, _, hF => exact False.elim hF
/-! #### len -/
def oLen : D → M D
  | .str z => guardM (szOk z.length) >>= fun _ => pure (.int z.length)
  | .tup ds => pure (.int ds.length)
  | d => rdL d >>= fun ds => pure (.int ds.length)
def rLenU (K : PySem.W.Frag) : List V → Hp → VK → Prop := fun xs H Q => (∃ p ys, xs = [.ref p] ∧ (SqL K H p ys ∨ SqT K H p ys) ∧ Q (.int ys.length) H) ∨ ∃ z, xs = [.str z] ∧ z.length ≤ sizeLine ∧ Q (.int z.length) H
theorem call_lenU : CallR X (.builtin "len") (rLenU X.K) := call_len_seq.or call_len_str
theorem s_len : SimC C (rLenU C.K) (on1 oLen) := simC1 fun c d v Q E w dn hF => by
  have lists : ∀ d, Den C c.G c.ρ d v → Fn C c ((rdL d >>= fun ds => pure (.int ds.length)) c.s) (KD C Q) E → rLenU C.K [v] c.H Q := fun d dn hF => by
    obtain ⟨p, vs, ds, rfl, hq, l, hF2⟩ := rdL_sim w dn hF
    have := Fn.ok w hF2 _ rfl
    rw [← l.length] at this
    exact .inl ⟨p, vs, rfl, .inl hq, this⟩
  cases d <;> first | exact lists _ dn hF | skip
  · obtain ⟨hz, hF2⟩ := Fn.guard hF
    cases (show v = _ from dn)
    exact .inr ⟨_, rfl, szOk_line hz, Fn.ok w hF2 _ rfl⟩
  · obtain ⟨a, vs, rfl, ha, l⟩ := dn
    have := Fn.ok w hF _ rfl
    rw [← l.length] at this
    exact .inl ⟨a, vs, rfl, .inr (w.ext.sqt ha), this⟩
end
end DL
set_option Elab.async false
set_option linter.all false
set_option maxRecDepth 100000
set_option maxHeartbeats 2000000
/-! # Own errors: a class whose maker says super().__init__(text), then self.f = f -/
namespace PySem
namespace ErrX
open PySem.W PySem.Calls PyProof.Rows PySem.HandSPX
def eiA (f : Str) (p1 p2 : Pos) : Arguments := { posonlyargs := [], args := [{ arg := "self", annotation := none, pos := p1 }, { arg := f, annotation := none, pos := p2 }], vararg := none, kwonlyargs := [], kw_defaults := [], kwarg := none, defaults := [] }
def eiB (m f : Str) (j : Nat) (p0 p1 p2 p3 p4 p5 q1 q2 q3 q4 : Pos) : List Stmt :=
  [.Expr (.Call (.Attribute (.Call (.Name "super" p0) [] [] p1) "__init__" p2) [.Constant (.str m) j p3] [] p4) p5, .Assign [.Attribute (.Name "self" q1) f q2] (.Name f q3) q4]
def eiS (f : Str) : Scope := { kind := .function, names := [(PySem.Str.ofString "self", .local), (f, .local), (PySem.Str.ofString "__class__", .free), (PySem.Str.ofString "super", .globalImplicit)], isGenerator := false, isCoroutine := false, more := [] }
/-- the call's reading -/
def ErrCall (m : Str) (j : Nat) (p0 p1 p2 p3 p4 : Pos) : Prop := ∃ pl : Sem Bool, ∀ env : Env, eval (.Call (.Attribute (.Call (.Name "super" p0) [] [] p1) "__init__" p2) [.Constant (.str m) j p3] [] p4) env = (do
      let ov ← attributeBase (.Call (.Name "super" p0) [] [] p1) "__init__" env (eval (.Call (.Name "super" p0) [] [] p1) env)
      standAt p2.atName
      let (f, first) ← holding [ov] (getMethod ov "__init__" pl)
      callWith p4 f first (backTo p4 (starEach [.Constant (.str m) j p3] env)) [])
/-- what the top wrote of the class at C and its maker at fI; f: the field -/
structure ErrTxt (P : Program) (K : Frag) (mg : Str → Option Value) (x f : Str) (C fI : Addr) : Prop where
  gC : mg x = some (.ref C)
  cls : ∃ nm q N bs bm sn sub ab col dd k0 k1 k2 k3 k5, K.lookup C = some (excClassObj nm q C N bs bm true sn sub ab col dd k0 k1 k2 k3 k5 "ValueError.__new__") ∧ refsVE bm = true
  sa : findIn K (.ref C) "__setattr__" = some (some (.builtin "object.__setattr__"))
  noN : findIn K (.ref C) f = some none
  iC : findIn K (.ref C) "__init__" = some (some (.ref fI))
  tC : typeIn K (.ref fI) = some (.type "function")
  kC : keepIn K (.ref C) = true
  exC : subIn K (.ref C) (.type "BaseException") = some true
  tyC : typeIn K (.ref C) = some (.type "type")
  su : ks_superIn K C C "__init__" = some (some (.builtin "ValueError.__init__"))
  opq : nsIn K cStatics "thirdparty.any" = some none
  sv : subIn K (.ref C) (.type "ValueError") = some true
  se : mroIn K C (.ref C) = some true
  ms : mg "super" = none
  top : (P.main.scope.names.lookup ("super" : Str)).isSome = false
  fn : ∃ (oc : Value) (od : Option Addr) (qual m : Str) (j : Nat) (doc pm : Value) (an : Option Addr) (cda : Addr) (ct : Value) (cc : Addr) (osl : Array (Option Value)) (r1 r2 p0 p1 p2 p3 p4 p5 q1 q2 q3 q4 : Pos),
    K.lookup fI = some ⟨oc, od, .func (ksFn "__init__" qual (eiA f r1 r2) (eiB m f j p0 p1 p2 p3 p4 p5 q1 q2 q3 q4) (eiS f) .none .none doc pm an (.ref cda) ct cc), osl⟩ ∧ codeIn K (.ref cda) qual = true ∧ ErrCall m j p0 p1 p2 p3 p4 ∧
    (∃ (ccl : Value) (cdd : Option Addr) (vs : Array Value) (ccs : Array (Option Value)) (file : Str) (tf : Tok), K.lookup cda = some ⟨ccl, cdd, .fields vs, ccs⟩ ∧ vs[2]? = some (.str file tf) ∧ ((P.main.file : Str) == file) = true) ∧
    ∃ (cl : Value) (cld : Option Addr) (csl : Array (Option Value)), K.lookup cc = some ⟨cl, cld, .cell (some (.ref C)), csl⟩
  k1 : (("self" : Str) == f) = false
  k2 : (("__class__" : Str) == f) = false
  k3 : (("super" : Str) == f) = false
  k4 : (f == ("__debug__" : Str)) = false
  k5 : (f == ("self" : Str)) = false
  bi : ∀ (qual : Str) (body : List Stmt) (r1 r2 : Pos) (doc pm : Value) (an : Option Addr) (cdv ct : Value) (cc : Addr) (u v : Value), bindArgs (ksFn "__init__" qual (eiA f r1 r2) body (eiS f) .none .none doc pm an cdv ct cc) ⟨[u, v], []⟩ = pure [(PySem.Str.ofString "self", u), (f, v)]
theorem kept_but {K : Frag} {h h' : Heap} {x : Addr} (X : K.In h) (hx : K.lookup x = none) (k : ∀ b o, b ≠ x → h.get? b = some o → h'.get? b = some o) : K.In h' := fun a o e =>
  k a o (fun z => by rw [z, hx] at e; cases e) (X a o e)
/-- what the maker leaves of a fresh error at x -/
structure InitEnd (h h' : Heap) (x C dx : Addr) (f : Str) (v : Value) : Prop where
  keep : ∀ b o, b ≠ x → h.get? b = some o → h'.get? b = some o
  obj : ∃ t1, h'.get? x = some { cls := .ref C, dict := some dx, data := .fields #[.ref t1, .none, .none, .none, .bool false, .none] }
  dbig : h.objs.size ≤ dx
  dne : dx ≠ x
  ns : h'.Ns1 dx (fun y => if y = f then some v else none)
/-- a made error -/
structure OwnMade (h h' : Heap) (e C d : Addr) (f : Str) (v : Value) : Prop where
  keep : ∀ b o, h.get? b = some o → h'.get? b = some o
  new : h.objs.size ≤ e
  obj : ∃ oe vs, h'.get? e = some oe ∧ oe.cls = .ref C ∧ oe.dict = some d ∧ oe.data = .fields vs ∧ vs[1]? = some .none
  dbig : h.objs.size ≤ d
  dne : d ≠ e
  ns : h'.Ns1 d (fun y => if y = f then some v else none)
section
variable {prog : Program} {w : World} {A : Around} {E : Value → Shared → Prop} {R : Result → Shared → Prop} {s : Shared} {K : Frag} {mg : Str → Option Value} {C fI : Addr} {x0 f : Str} {base : Heap}
theorem one_size (v : Value) : [v].length ≤ sizeLine := by
  rw [sizeLine_eq]
  exact (by decide : 1 ≤ 16777216)
/-- the bound ValueError.__init__ called -/
theorem call_mw {u e t0 : Addr} {rest : List Value} {Q : Value → Shared → Prop} {nm q : Str} {N : Addr} {bs bm : List Value} {hdct : Bool} {sn : List Str} {sub : List Value} {ab : Bool} {col : Option Bool} {dd : Option Addr} {k0 k1 k2 k3 k5 : Option Value} {h : Heap} {g : Array GenState} {d : Drawn} {t : Nat} {os : OsState}
    (hC : h.get? C = some (excClassObj nm q C N bs bm hdct sn sub ab col dd k0 k1 k2 k3 k5 "ValueError.__new__")) (he : h.get? e = some (excO C t0)) (hu : h.get? u = some (kxs_mw "ValueError.__init__" e)) (hrest : rest.length ≤ sizeLine)
    (hq : ∀ h' t1, (∀ b o, b ≠ e → h.get? b = some o → h'.get? b = some o) → h'.get? e = some (excO C t1) → Q .none ⟨h', g, d, t, os⟩) :
    wpAny (model prog w) A (call (.ref u) rest) Q E ⟨h, g, d, t, os⟩ := by
  have FB := F.excBase_ValueError
  refine wpAny_call (codeAny_of_tree ?_)
  show wpAny _ A.in1 (callAny (.ref u) ⟨rest, []⟩) _ _ _
  simp only [callAny]
  refine wpAny_bind (wpAny_load hu ?_)
  simp only [kxs_mw, show (Value.type "method-wrapper" == Value.type "method" || Value.type "method-wrapper" == Value.type "builtin_function_or_method" || Value.type "method-wrapper" == Value.type "method-wrapper") = true by decide, if_true]
  refine W.KFB.if_so (by decide) ?_
  refine wpAny_bind (check_bound_init FB.toExcCallFacts hC he rfl ?_)
  refine wpAny_bind (wpAny_pure (wpAny_pure ?_))
  refine ⟨plainId_quiet FB.init.plain _, codeAny_builtin FB.initEntry ?_⟩
  exact exc_init_tree (cls := .ref C) (t0 := t0) (dv := none) (c2 := .none) (c3 := .none) (b4 := .bool false) he hrest fun h' k e' _ => hq h' _ k e'
theorem err_init (T : ErrTxt prog K mg x0 f C fI) (Mo : L2.Mod K mg base) {x t0 : Addr} {v : Value} (bk : ∀ b o, base.get? b = some o → s.heap.get? b = some o) (hlim : s.heap.NoLimit) (hx : s.heap.get? x = some (excO C t0)) (hnx : K.lookup x = none) (hnb : base.get? x = none) (hroom : A.depth < recursionLimit)
    (hq : ∀ h' tk dx, InitEnd s.heap h' x C dx f v → R (.ok (.ret .none)) { s with heap := h', toks := tk }) :
    codeAny (model prog w) A (.call (.ref fI) ⟨[.ref x, v], []⟩) R s := by
  obtain ⟨oc, od, qual, m, j, doc, pm, an, cda, ct, cc, osl, r1, r2, p0, p1, p2, p3, p4, p5, q1, q2, q3, q4, ho, hcd, ⟨pl, hpl⟩, ⟨ccl, cdd, vs, ccs, file, tf, hcode, hvs, hfile⟩, cl, cld, csl, hcell⟩ := T.fn
  obtain ⟨nm, q, N, bs, bm, sn, sub, ab, col, dd, k0, k1, k2, k3, k5, hC, hbm⟩ := T.cls
  have X : K.In s.heap := Mo.kin.keeps bk
  have hcl : clsIn K C = some { name := nm, bases := bs, mro := .ref C :: bm, ns := N, qualname := q, hasDict := true, slotNames := sn, subclasses := sub, abstract := ab, collection := col, hasDel := false } := by unfold clsIn; rw [hC] <;> rfl
  obtain ⟨mb, hb1, hb2⟩ := Mo.blt
  refine ks_codeAny_call_defAt (fd := ksFn "__init__" qual (eiA f r1 r2) (eiB m f j p0 p1 p2 p3 p4 p5 q1 q2 q3 q4) (eiS f) .none .none doc pm an (.ref cda) ct cc) (body := eiB m f j p0 p1 p2 p3 p4 p5 q1 q2 q3 q4) (binds := [("self", .ref x), (f, v)])
    hroom (X _ _ ho) rfl hlim (codeRec_of X hcd) rfl (BindsTo.of_eq (T.bi _ _ _ _ _ _ _ _ _ _ _ _)) ?_ ?_ (fun h₁ hn k => ?_) rfl rfl rfl
  · intro y hy
    simp only [ksFn, eiS, List.mem_cons, List.not_mem_nil, or_false] at hy
    rcases hy with rfl | rfl | rfl | rfl <;> exact fun z => by cases z
  · intro y hy
    simp only [List.mem_cons, List.not_mem_nil, or_false] at hy
    rcases hy with rfl | rfl
    · rfl
    · show List.lookup f (eiS f).names = some .local
      unfold eiS
      rw [List.lookup_cons, show (f == PySem.Str.ofString "self") = false from T.k5]
      simp [List.lookup_cons]
  have X₁ : K.In h₁ := X.keeps k
  have hx₁ := k _ _ hx
  have IA : InstAt h₁ x (excO C t0) C none := ⟨hx₁, rfl, rfl, trivial⟩
  have ksup : List.lookup ("super" : Str) (eiS f).names = some .globalImplicit := by
    unfold eiS
    rw [List.lookup_cons, show (("super" : Str) == PySem.Str.ofString "self") = false by decide, List.lookup_cons, T.k3]
    decide
  have kcls : List.lookup ("__class__" : Str) (eiS f).names = some .free := by
    unfold eiS
    rw [List.lookup_cons, show (("__class__" : Str) == PySem.Str.ofString "self") = false by decide, List.lookup_cons, T.k2]
    decide
  have kself : List.lookup ("self" : Str) (eiS f).names = some .local := rfl
  have kf : List.lookup f (eiS f).names = some .local := by
    unfold eiS
    rw [List.lookup_cons, show (f == PySem.Str.ofString "self") = false from T.k5]
    simp [List.lookup_cons]
  have mself : (fun y => List.lookup y ([(("self" : Str), Value.ref x), (f, v)] : List (Str × Value)).reverse) "self" = some (.ref x) := by
    show List.lookup ("self" : Str) [(f, v), ("self", .ref x)] = _
    rw [List.lookup_cons, T.k1]
    rfl
  have mf : (fun y => List.lookup y ([(("self" : Str), Value.ref x), (f, v)] : List (Str × Value)).reverse) f = some v := by
    show List.lookup f [(f, v), ("self", .ref x)] = _
    simp [List.lookup_cons]
  refine ks_wpAt_execs_cons (ks_wpAt_Expr_any (ks_wpAt_MethodCall (pl := pl) ?_ (hpl _)) ?_ ?_)
  · refine ks_wpAt_super_base (env := ksEnv qual (eiS f) s.heap.objs.size fI (.ref cda) cc) ksup kcls (by decide) rfl (X₁ _ _ ho) rfl rfl rfl (X₁ _ _ hcode) rfl hvs hfile T.top ?_
    refine ks_loadName_global rfl ksup (loadGlobal_builtin (env := ksEnv qual (eiS f) s.heap.objs.size fI (.ref cda) cc) (Mo.glob.keeps fun b o e => k b o (bk b o e)) T.ms (hb1.keeps fun b o e => k b o (bk b o e)) ((hb2 _ (by decide)).trans (by rfl)) ⟨rfl, ?_⟩)
    refine wpAny_loadName_free rfl kcls rfl ⟨_, X₁ _ _ hcell, rfl⟩ ?_
    refine wpAny_loadName_local rfl kself hn mself ?_
    refine ks_wpAny_isType_cls (X₁ _ _ hC) rfl ⟨rfl, ?_⟩
    refine ks_wpAny_call_super (X₁ _ _ hC) rfl hx₁ rfl (fun c z => by cases z) (looks_mroIn X₁ T.se) (fun h₂ e₂ k₂ => ?_)
    have X₂ : K.In h₂ := X₁.keeps k₂
    have hx₂ := k₂ _ _ hx₁
    have I₂ : InstAt h₂ x (excO C t0) C none := ⟨hx₂, rfl, rfl, trivial⟩
    have hI : Looks (model prog w) h₂ (isInstance (.ref x) (.type "ValueError")) true := I₂.type.andThen (looks_subIn X₂ T.sv)
    have hm := T.su
    unfold ks_superIn at hm
    rw [hcl] at hm
    have hnn := hn.keeps k₂
    have szs : s.heap.objs.size < h₁.objs.size := hn.lt
    have sz2 : h₁.objs.size < h₂.objs.size := Heap.lt_size e₂
    refine kxs_getMethod kxs_ValueError e₂ (looks_opaque X₂ T.opq) (l₀ := .ref C :: bm) ?_ rfl X₂ hm hI (ks_ne X₂ I₂ hcl) (by decide) ?_
    · exact fun A Q E s k q => wpAny_bind ((looks_clsIn X₂ hcl) A _ E s k (wpAny_pure q))
    have k₃ : ∀ b o, h₂.get? b = some o → (h₂.push (kxs_mw "ValueError.__init__" x)).get? b = some o := fun b o e => Heap.get?_push_of_some _ e
    have hu : (h₂.push (kxs_mw "ValueError.__init__" x)).get? h₂.objs.size = some (kxs_mw "ValueError.__init__" x) := Heap.get?_push_at rfl rfl
    refine kxs_callWith (i := "ValueError.__init__") (x := x) (by rfl) ?_
    refine evalArgs_plain (x := eval (.Constant (.str m) j p3) _) (rest := []) ?_
    refine Calls.spliced_cons (Calls.Constant_str (Calls.spliced_nil ?_))
    refine ⟨hu, ?_⟩
    show wpAny _ _ (call (.ref h₂.objs.size) [.str m _]) _ _ _
    refine call_mw (C := C) (k₃ _ _ (X₂ _ _ hC)) (k₃ _ _ hx₂) hu (one_size _) fun h₃ t1 k₄ hx₃ => ?_
    have bkx : ∀ b o, s.heap.get? b = some o → b ≠ x → h₃.get? b = some o := fun b o e n => k₄ b o n (k₃ _ _ (k₂ _ _ (k _ _ e)))
    have X₃ : K.In h₃ := fun a o e => bkx a o (X a o e) fun z => by rw [z, hnx] at e; cases e
    have Lx : s.heap.objs.size ≠ x := Nat.ne_of_gt (Heap.lt_size hx)
    have hn₃ : h₃.Ns s.heap.objs.size (fun y => List.lookup y ([(("self" : Str), Value.ref x), (f, v)] : List (Str × Value)).reverse) := by
      obtain ⟨oL, es, ep, hL, r⟩ := hnn
      exact ⟨oL, es, ep, k₄ _ _ Lx (k₃ _ _ hL), r⟩
    have sz3 : h₂.objs.size < h₃.objs.size := Heap.lt_size (k₄ _ _ (fun z => by
      have := Heap.lt_size hx₂
      rw [← z] at this
      exact absurd this (Nat.lt_irrefl _)) hu)
    refine wpAt_of_wpAny ?_
    refine wpAny_execs_cons (plainObj_wpAny_Assign_Attribute ?_)
    refine wpAny_Name (wpAny_loadName_local rfl kf hn₃ mf ?_) T.k4
    refine wpAny_Name (wpAny_loadName_local rfl kself hn₃ mself ?_) (by decide)
    refine set_plain X₃ (ox := excO C t1) (od := none) ⟨hx₃, rfl, rfl, trivial⟩ T.sa ?_
    refine exc_osa X₃ hx₃ hcl (show refsVE (.ref C :: bm) = true from hbm) rfl T.noN (fun h₅ tk₅ dx k₅ dn dne hx₅ hn₅ => ?_)
    show wpAny _ _ (execs _ _) _ _ _
    refine wpAny_execs_nil (hq h₅ tk₅ dx ⟨fun b o hb e => k₅ b o hb (bkx b o e hb), ⟨_, hx₅⟩, ?_, dne, hn₅⟩)
    exact Nat.le_of_lt (Nat.lt_of_lt_of_le (Nat.lt_trans (Nat.lt_trans szs sz2) sz3) dn)
  all_goals rfl
theorem err_made (T : ErrTxt prog K mg x0 f C fI) (Mo : L2.Mod K mg base) {v : Value} (bk : ∀ b o, base.get? b = some o → s.heap.get? b = some o) (hlim : s.heap.NoLimit) (hroom : A.depth + 1 < recursionLimit)
    (hq : ∀ h' tk e d, OwnMade s.heap h' e C d f v → R (.ok (.ret (.ref e))) { s with heap := h', toks := tk }) :
    codeAny (model prog w) A (.call (.ref C) ⟨[v], []⟩) R s := by
  obtain ⟨nm, q, N, bs, bm, sn, sub, ab, col, dd, k0, k1, k2, k3, k5, hC, hbm⟩ := T.cls
  have X : K.In s.heap := Mo.kin.keeps bk
  obtain ⟨hp, g, dr, tk, os⟩ := s
  have k : ∀ b o, hp.get? b = some o → ((hp.push (kdv_tup [v])).push (excO C hp.objs.size)).get? b = some o := fun b o e => Heap.get?_push_of_some _ (Heap.get?_push_of_some _ e)
  have hget : ((hp.push (kdv_tup [v])).push (excO C hp.objs.size)).get? (hp.objs.size + 1) = some (excO C hp.objs.size) := by heap_get
  have non : ∀ {G : Heap}, (∀ b o, G.get? b = some o → hp.get? b = some o) → G.get? (hp.objs.size + 1) = none := fun {G} kk => by
    cases e : G.get? (hp.objs.size + 1) with
    | none => rfl
    | some o => exact absurd (Nat.lt_of_succ_lt (Heap.lt_size (kk _ _ e))) (Nat.lt_irrefl _)
  have hnx : K.lookup (hp.objs.size + 1) = none := by
    cases e : K.lookup (hp.objs.size + 1) with
    | none => rfl
    | some o => exact absurd (Nat.lt_of_succ_lt (Heap.lt_size (X _ _ e))) (Nat.lt_irrefl _)
  refine call_own F.excBase_ValueError (fun X => refsVE_contains X bm hbm) (X _ _ hC) (looks_findIn X T.iC) (fun self => bind_fn X self T.tC) (one_size v) ?_
  refine err_init (s := ⟨(hp.push (kdv_tup [v])).push (excO C hp.objs.size), g, dr, tk, os⟩) T Mo (fun b o e => k b o (bk b o e)) (hlim.keeps k) hget hnx (non bk) ?_ fun h' tk' dx ⟨k', ⟨t1, hx⟩, dn, dne, hns⟩ => ?_
  · show A.depth + 1 < recursionLimit
    exact hroom
  · have old : ∀ b o, hp.get? b = some o → h'.get? b = some o := fun b o e => k' b o (Nat.ne_of_lt (Nat.lt_succ_of_lt (Heap.lt_size e))) (k b o e)
    have z : hp.objs.size + 1 + 1 ≤ dx := by
      first
        | (simpa only [Heap.size_push] using dn)
        | exact dn
        | (have q := dn; rw [Heap.size_push, Heap.size_push] at q; exact q)
    exact ⟨rfl, hq h' tk' (hp.objs.size + 1) dx ⟨old, Nat.le_succ _, ⟨_, _, hx, rfl, rfl, rfl, rfl⟩, Nat.le_trans (Nat.le_trans (Nat.le_succ _) (Nat.le_succ _)) z, dne, hns⟩⟩
end
end ErrX
end PySem
set_option Elab.async false
set_option linter.all false
set_option maxRecDepth 100000
set_option maxHeartbeats 2000000
/-! # raise, try, isinstance -/
namespace DL
open PySem L2
open PyProof.Rows hiding St
/-! ### a value without a caught error in it -/
mutual
def D.nox : D → Bool
  | .tup ds => noxL ds
  | .lst ds => noxL ds
  | .dct ks => noxK ks
  | .exn _ _ => false
  | _ => true
def noxL : List D → Bool
  | [] => true
  | d :: ds => d.nox && noxL ds
def noxK : List (Key × D) → Bool
  | [] => true
  | (_, d) :: ds => d.nox && noxK ds
end
def noxF : List (Str × D) → Bool
  | [] => true
  | (_, d) :: ds => d.nox && noxF ds
abbrev Ct.up (C : Ct) (e : Addr × Addr × Addr) : Ct := { C with ex := some e }
section
variable {C : Ct} {G : Hp} {ρ : List Addr} {e : Addr × Addr × Addr}
mutual
theorem Den.up (hx : C.ex = none) : ∀ (d : D) (v : V), Den C G ρ d v → Den (C.up e) G ρ d v ∧ d.nox = true
  | .non, _, h => ⟨h, rfl⟩
  | .bl _, _, h => ⟨h, rfl⟩
  | .int _, _, h => ⟨h, rfl⟩
  | .str _, _, h => ⟨h, rfl⟩
  | .tup ds, v, h => by
    simp only [Den] at h ⊢
    obtain ⟨a, vs, e', s, l⟩ := h
    have q := DenL.up hx ds vs l
    exact ⟨⟨a, vs, e', s, q.1⟩, by simp only [D.nox]; exact q.2⟩
  | .lst ds, v, h => by
    simp only [Den] at h ⊢
    obtain ⟨a, vs, e', s, l⟩ := h
    have q := DenL.up hx ds vs l
    exact ⟨⟨a, vs, e', s, q.1⟩, by simp only [D.nox]; exact q.2⟩
  | .dct ds, v, h => by
    simp only [Den] at h ⊢
    obtain ⟨a, vs, e', s, l⟩ := h
    have q := DenK.up hx ds vs l
    exact ⟨⟨a, vs, e', s, q.1⟩, by simp only [D.nox]; exact q.2⟩
  | .scr _, _, h => ⟨by simp only [Den] at h ⊢; exact h, rfl⟩
  | .loc _, _, h => ⟨by simp only [Den] at h ⊢; exact h, rfl⟩
  | .ob _, _, h => ⟨by simp only [Den] at h ⊢; exact h, rfl⟩
  | .cls _, _, h => ⟨by simp only [Den] at h ⊢; exact h, rfl⟩
  | .exn k fs, v, h => by
    simp only [Den] at h
    obtain ⟨a, dx, gs, _, x, _⟩ := h
    rw [hx] at x
    cases x
theorem DenL.up (hx : C.ex = none) : ∀ (ds : List D) (vs : List V), DenL C G ρ ds vs → DenL (C.up e) G ρ ds vs ∧ noxL ds = true
  | [], _, h => ⟨by simp only [DenL] at h ⊢; exact h, rfl⟩
  | d :: ds, vs, h => by
    simp only [DenL] at h ⊢
    obtain ⟨v, r, e', h1, h2⟩ := h
    have q1 := Den.up hx d v h1
    have q2 := DenL.up hx ds r h2
    exact ⟨⟨v, r, e', q1.1, q2.1⟩, by simp only [noxL, q1.2, q2.2, Bool.and_self]⟩
theorem DenK.up (hx : C.ex = none) : ∀ (ds : List (Key × D)) (vs : List (Key × V)), DenK C G ρ ds vs → DenK (C.up e) G ρ ds vs ∧ noxK ds = true
  | [], _, h => ⟨by simp only [DenK] at h ⊢; exact h, rfl⟩
  | (k, d) :: ds, vs, h => by
    simp only [DenK] at h ⊢
    obtain ⟨v, r, e', h1, h2⟩ := h
    have q1 := Den.up hx d v h1
    have q2 := DenK.up hx ds r h2
    exact ⟨⟨v, r, e', q1.1, q2.1⟩, by simp only [noxK, q1.2, q2.2, Bool.and_self]⟩
end
theorem DenF.up (hx : C.ex = none) : ∀ (ds : List (Str × D)) (vs : List (Str × V)), DenF C G ρ ds vs → DenF (C.up e) G ρ ds vs ∧ noxF ds = true
  | [], _, h => ⟨by simp only [DenF] at h ⊢; exact h, rfl⟩
  | (k, d) :: ds, vs, h => by
    simp only [DenF] at h ⊢
    obtain ⟨v, r, e', h1, h2⟩ := h
    have q1 := Den.up (e := e) hx d v h1
    have q2 := DenF.up hx ds r h2
    exact ⟨⟨v, r, e', q1.1, q2.1⟩, by simp only [noxF, q1.2, q2.2, Bool.and_self]⟩
mutual
theorem Den.dn : ∀ (d : D) (v : V), d.nox = true → Den (C.up e) G ρ d v → Den C G ρ d v
  | .non, _, _, h => h
  | .bl _, _, _, h => h
  | .int _, _, _, h => h
  | .str _, _, _, h => h
  | .tup ds, v, n, h => by
    simp only [Den] at h ⊢
    obtain ⟨a, vs, e', s, l⟩ := h
    exact ⟨a, vs, e', s, DenL.dn ds vs (by simpa only [D.nox] using n) l⟩
  | .lst ds, v, n, h => by
    simp only [Den] at h ⊢
    obtain ⟨a, vs, e', s, l⟩ := h
    exact ⟨a, vs, e', s, DenL.dn ds vs (by simpa only [D.nox] using n) l⟩
  | .dct ds, v, n, h => by
    simp only [Den] at h ⊢
    obtain ⟨a, vs, e', s, l⟩ := h
    exact ⟨a, vs, e', s, DenK.dn ds vs (by simpa only [D.nox] using n) l⟩
  | .scr _, _, _, h => by simp only [Den] at h ⊢; exact h
  | .loc _, _, _, h => by simp only [Den] at h ⊢; exact h
  | .ob _, _, _, h => by simp only [Den] at h ⊢; exact h
  | .cls _, _, _, h => by simp only [Den] at h ⊢; exact h
  | .exn k fs, v, n, h => by simp [D.nox] at n
theorem DenL.dn : ∀ (ds : List D) (vs : List V), noxL ds = true → DenL (C.up e) G ρ ds vs → DenL C G ρ ds vs
  | [], _, _, h => by simp only [DenL] at h ⊢; exact h
  | d :: ds, vs, n, h => by
    simp only [DenL] at h ⊢
    simp only [noxL, Bool.and_eq_true] at n
    obtain ⟨v, r, e', h1, h2⟩ := h
    exact ⟨v, r, e', Den.dn d v n.1 h1, DenL.dn ds r n.2 h2⟩
theorem DenK.dn : ∀ (ds : List (Key × D)) (vs : List (Key × V)), noxK ds = true → DenK (C.up e) G ρ ds vs → DenK C G ρ ds vs
  | [], _, _, h => by simp only [DenK] at h ⊢; exact h
  | (k, d) :: ds, vs, n, h => by
    simp only [DenK] at h ⊢
    simp only [noxK, Bool.and_eq_true] at n
    obtain ⟨v, r, e', h1, h2⟩ := h
    exact ⟨v, r, e', Den.dn d v n.1 h1, DenK.dn ds r n.2 h2⟩
end
theorem DenF.dn : ∀ (ds : List (Str × D)) (vs : List (Str × V)), noxF ds = true → DenF (C.up e) G ρ ds vs → DenF C G ρ ds vs
  | [], _, _, h => by simp only [DenF] at h ⊢; exact h
  | (k, d) :: ds, vs, n, h => by
    simp only [DenF] at h ⊢
    simp only [noxF, Bool.and_eq_true] at n
    obtain ⟨v, r, e', h1, h2⟩ := h
    exact ⟨v, r, e', Den.dn d v n.1 h1, DenF.dn ds r n.2 h2⟩
end
def O.nox : O → Bool
  | .lst ds => noxL ds
  | .dct ds => noxK ds
  | .ins _ fs => noxF fs
section
variable {C : Ct} {e : Addr × Addr × Addr}
theorem OR.up {G : Hp} {ρ : List Addr} (hx : C.ex = none) {o : O} {a : Addr} {h : HO} (q : OR C G ρ o a h) : OR (C.up e) G ρ o a h ∧ o.nox = true := by
  cases o with
  | lst ds => obtain ⟨vs, x, l⟩ := q; exact ⟨⟨vs, x, (DenL.up hx _ _ l).1⟩, (DenL.up (e := e) hx _ _ l).2⟩
  | dct ds => obtain ⟨vs, x, l⟩ := q; exact ⟨⟨vs, x, (DenK.up hx _ _ l).1⟩, (DenK.up (e := e) hx _ _ l).2⟩
  | ins c fs => obtain ⟨dx, gs, x, g, l⟩ := q; exact ⟨⟨dx, gs, x, g, (DenF.up hx _ _ l).1⟩, (DenF.up (e := e) hx _ _ l).2⟩
theorem OR.dn {G : Hp} {ρ : List Addr} {o : O} {a : Addr} {h : HO} (n : o.nox = true) (q : OR (C.up e) G ρ o a h) : OR C G ρ o a h := by
  cases o with
  | lst ds => obtain ⟨vs, x, l⟩ := q; exact ⟨vs, x, DenL.dn _ _ n l⟩
  | dct ds => obtain ⟨vs, x, l⟩ := q; exact ⟨vs, x, DenK.dn _ _ n l⟩
  | ins c fs => obtain ⟨dx, gs, x, g, l⟩ := q; exact ⟨dx, gs, x, g, DenF.dn _ _ n l⟩
theorem WF.up {c : Cf} (hx : C.ex = none) (w : WF C c) : WF (C.up e) c := ⟨w.ext, w.len, w.nd, w.dom, fun n o h => by
  obtain ⟨a, ho, x1, x2, x3, x4⟩ := w.cel n o h
  exact ⟨a, ho, x1, x2, x3, (OR.up hx x4).1⟩⟩
theorem WF.dn {c c1 : Cf} (hx : C.ex = none) (w1 : WF C c1) (hs : c.s = c1.s) (w : WF (C.up e) c) : WF C c := ⟨w.ext, w.len, w.nd, w.dom, fun n o h => by
  obtain ⟨a, ho, x1, x2, x3, x4⟩ := w.cel n o h
  rw [hs] at h
  obtain ⟨_, _, _, _, _, y⟩ := w1.cel n o h
  exact ⟨a, ho, x1, x2, x3, x4.dn (OR.up (e := e) hx y).2⟩⟩
theorem Rl.up {env : LE} {σ : L2.St} {c : Cf} (hx : C.ex = none) (h : Rl C env σ c) : Rl (C.up e) env σ c := by
  refine ⟨h.wf.up hx, h.len, fun i d q => ?_, fun i o q => ?_, h.apart⟩
  · obtain ⟨v, x, y⟩ := h.val i d q
    exact ⟨v, x, (Den.up hx _ _ y).1⟩
  · obtain ⟨a, ho, x1, x2, x3, x4, x5⟩ := h.own i o q
    exact ⟨a, ho, x1, x2, x3, x4, (OR.up hx x5).1⟩
theorem RlS.up {env : LE} {σ : L2.St} {c0 c : Cf} (hx : C.ex = none) (h : RlS C c0 env σ c) : RlS (C.up e) c0 env σ c := ⟨h.rl.up hx, h.ext, h.mine⟩
end

/-! ### raise X(e) -/
theorem relO_one {f0 : Str} {v : V} {v' : Value} (r : RelV v v') (f : Str) : RelO (List.lookup f [(f0, v)]) (if f = f0 then some v' else none) := by
  by_cases hw : f = f0
  · subst hw
    rw [if_pos rfl, show List.lookup f [(f, v)] = some v by simp [List.lookup]]
    exact r
  · have qw : (f == f0) = false := by simpa using hw
    rw [if_neg hw, show List.lookup f [(f0, v)] = none by simp [List.lookup, qw]]
    trivial
section
variable {X : Cx} {C : Ct} {c0 : Cf} {W : WX}
def tMkErr (A : Addr) (f : Str) (te : TE) : L2.St → Hp → XK → Prop := fun σ H Q => tCons te tNil σ H fun vs H1 => ∃ v, vs = [v] ∧ ∀ d, H1 d = none → Q (.ref A) (some d) (upd H1 d (.xd [(f, v)]))
theorem pmk_err {x f : Str} {A fI : Addr} {a : Expr} {te : TE} {p pos : Pos} {k : Nat} (T : PySem.ErrX.ErrTxt X.prog X.K X.mg x f A fI) (hr : Room k X.A) (ha : PE X a te) (hg : Gl X x := by rfl) (hdb : (x == ("__debug__" : Str)) = false := by decide)
    (he : starEach (a :: []) X.env = (false, eval a X.env) :: starEach [] X.env := by rfl) (hpl : (backTo pos (starEach [] X.env)).any (·.1) = false := by rfl) :
    PMk X (.Call (.Name x p) [a] [] pos) (tMkErr A f te) := by
  intro pins s σ H Q I h
  refine wpAny_Call_Name_kw (ld_glob I hg T.gC ?_ hdb)
  refine PySem.W.callWith_K (h₀ := X.base) I.ok.mod.kin T.kC (thn ((pa_cons ha pa_nil he).run pos pins s σ H _ I h) fun us s1 hh => ?_) he hpl
  obtain ⟨vs, H1, I1, r1, v, ev, q1⟩ := hh
  subst ev
  refine ⟨I1.kIn, ?_⟩
  cases r1 with
  | cons rv rn =>
    rename_i v' us'
    cases rn
    show wpAny _ _ (call (.ref A) [v']) _ _ _
    have hlim := I1.nolimit
    have bk := fun b o (e : X.base.get? b = some o) => I1.bk b o e
    obtain ⟨hp, g, dr, tk, os⟩ := s1
    refine wpAny_call (PySem.ErrX.err_made T I1.ok.mod bk hlim (by have := hr.dp; omega) fun h' tk' e d M => ?_)
    show MkP X pins σ Q (.ref e) ⟨h', g, dr, tk', os⟩
    obtain ⟨oe, fv, hoe, hc, hd, hdat, h1⟩ := M.obj
    have hns := M.ns
    obtain ⟨G', g1, g2⟩ := restrict h' fun b => decide (b ≠ e)
    have gk : ∀ b, b ≠ e → G'.get? b = h'.get? b := fun b hb => g1 b (decide_eq_true hb)
    have ge : G'.get? e = none := g2 e (by simp)
    have old : ∀ b o, hp.get? b = some o → G'.get? b = some o := fun b o q => (gk b (Nat.ne_of_lt (Nat.lt_of_lt_of_le (Heap.lt_size q) M.new))).trans (M.keep b o q)
    have ob : ObjOk X.prog X.w (upd H1 d (.xd [(f, v)])) G' d (.xd [(f, v)]) := ⟨_, hns.at (fun o q => (gk d M.dne).trans q), fun y => relO_one rv y⟩
    have J : Inv X pins σ (upd H1 d (.xd [(f, v)])) ⟨G', g, dr, tk', os⟩ := I1.laid (t' := tk') old M.dbig ob
    refine ⟨e, oe, fv, ⟨G', g, dr, tk', os⟩, _, .ref A, some d, rfl, J, fun b o q => ?_, ge, hoe, ⟨hc, hd⟩, hdat, h1, ?_, rfl, I1.bare, raises_own T.exC T.tyC, q1 d (I1.hok.fresh M.dbig)⟩
    · by_cases hb : b = e
      · have q' : G'.get? b = some o := q
        rw [hb, ge] at q'; cases q'
      · exact (gk b hb).symm.trans q
    · rw [upd_ne (Ne.symm M.dne)]
      exact I1.hok.fresh M.new
def sRaise (k : Nat) (f : Str) (m : LE → M D) : SM := sE m fun d env s => some (.xc (.own k) [(f, d)] env, s)
theorem s1_raise {x f : Str} {fI : Addr} {k : Nat} {a : Expr} {m : LE → M D} {p pos pos2 : Pos} {kr : Nat} (T : PySem.ErrX.ErrTxt X.prog X.K X.mg x f (C.ca k) fI) (hr : RoomG kr X.A) (tk : Takes X W) (ha : SE X C W a m) (hc : X.calm = true := by rfl) (hg : Gl X x := by rfl) (hdb : (x == ("__debug__" : Str)) = false := by decide)
    (he : starEach (a :: []) X.env = (false, eval a X.env) :: starEach [] X.env := by rfl) (hpl : (backTo pos (starEach [] X.env)).any (·.1) = false := by rfl) :
    SS1 X C c0 W (.Raise (some (.Call (.Name x p) [a] [] pos)) none pos2) (sRaise k f m) := by
  obtain ⟨t, pe, se⟩ := ha.out
  refine ⟨_, ps_raise hc tk (pmk_err T hr.room pe hg hdb he hpl), fun env σ c E hR hF => ?_⟩
  refine se env σ c _ hR.rl (hF.fn hR fun d c' x w hR' hF' v dn => ⟨v, rfl, fun q hq => ?_⟩)
  obtain ⟨w2, e2⟩ := lay_frozen (o := .xd [(f, v)]) w hq
  refine hF' σ ⟨upd c'.H q (.xd [(f, v)]), upd c'.G q (.xd [(f, v)]), c'.ρ, c'.s⟩ q [(f, v)] rfl (hR'.step e2 w2) e2.since upd_same ?_
  simp only [DenF]
  exact ⟨v, [], rfl, dn.mono e2.g e2.pre, rfl⟩
end
end DL
set_option Elab.async false
set_option linter.all false
set_option maxRecDepth 100000
set_option maxHeartbeats 2000000
/-! # try, isinstance -/
namespace DL
open PySem L2
open PyProof.Rows hiding St
section
variable {X : Cx} {C : Ct} {c0 : Cf} {W : WX}
def tS (C : Ct) (c0 : Cf) (W : WX) (m : SM) : TS := fun E σ H => ∃ env c, c.H = H ∧ RlS C c0 env σ c ∧ FS C c0 c W E (m env c.s)
theorem SS.canon {st : List Stmt} {m : SM} (h : SS X C c0 W st m) : PSs X st (tS C c0 W m) := by
  obtain ⟨t, p, s⟩ := h.out
  refine ⟨fun pins st σ H E I h => ?_⟩
  obtain ⟨env, c, rfl, hR, hF⟩ := h
  exact p.run pins st σ c.H E I (s env σ c E hR hF)
/-- the answer of a suite that only returns a value: the cells stay -/
noncomputable def sufRes (r : R D) (s' : S) : SR := match r with
  | .ok d s'' => open Classical in if s'' = s' ∧ d.nox = true then some (.rt d, s') else none
  | _ => none
noncomputable def sTryAs (i : Nat) (mt : Nat → Option Bool) (mb : SM) (me : LE → M D) : SM := fun env s => match mb env s with
  | some (.xc (.own j) fs env', s') => (match mt j with
    | some true => sufRes (me (env'.set i (some (.val (.exn j fs)))) s') s'
    | some false => some (.xc (.own j) fs env', s')
    | none => none)
  | some (.xc (.bi _) _ _, _) => none
  | r => r
/-- which own errors a clause names -/
structure Mt (K : PySem.W.Frag) (C : Ct) (k : Nat) (mt : Nat → Option Bool) : Prop where
  ex : ∀ j b, mt j = some b → PySem.W.exmOne K (.ref (C.ca j)) (.ref (C.ca k)) = some b
theorem s1_tryAs (i k : Nat) {x n : Str} {mt : Nat → Option Bool} {body : List Stmt} {e : Expr} {mb : SM} {me : LE → M D} {np rp pos pos' : Pos} (tk : Takes X W) (hm : Mt X.K C k mt) (hc : Names X x (.ref (C.ca k))) (hx : C.ex = none)
    (hb : ∀ (W' : WX) (pn : List (Addr × Obj)) (xe : Value → Shared → Prop), Takes (X.tr pn xe) W' → PassesOwn (model X.prog X.w) X.A X.env xe → SS (X.tr pn xe) C c0 W' body mb)
    (hsu : ∀ (a : Addr) (oe : Obj) (j : Nat) (dx : Addr) (pn : List (Addr × Obj)), mt j = some true → Zc (.ref (C.ca j)) (some dx) oe → (∃ vs, oe.data = .fields vs) → SE (X.suite a ((a, oe) :: pn)) (C.up (a, C.ca j, dx)) WN e me)
    (hN : X.N.Nodup) (hi : X.N[i]? = some n := by rfl) (hln : X.env.kindOf n = some .local := by rfl) (hs : X.stack = X.env :: X.outer := by rfl) (hf : X.env.frame = some X.env.locals := by rfl) :
    SS1 X C c0 W (.Try body [.ExceptHandler (some (.Name x np)) (some n) [.Return (some e) rp] pos'] [] [] pos) (sTryAs i mt mb me) := by
  refine ⟨_, ps_try_as (tb := fun W' => tS C c0 W' mb) (ts := fun a cls d E σ H => ∃ j dx env c, mt j = some true ∧ cls = .ref (C.ca j) ∧ d = some dx ∧ c.H = H ∧ RlS (C.up (a, C.ca j, dx)) c0 env σ c ∧ FS (C.up (a, C.ca j, dx)) c0 c WN E (sRet me env c.s)) hs hf hN hi hln hc tk
    (fun W' pn xe t p => (hb W' pn xe t p).canon) (fun a oe cls d pn hz hfv => ⟨fun pins st σ H E I h => ?_⟩), fun env σ c E hR hF => ?_⟩
  · obtain ⟨j, dx, env, c, hj, rfl, rfl, rfl, hR, hF⟩ := h
    obtain ⟨t, p, sm⟩ := (ss_one (s1_ret (c0 := c0) (pos := rp) (hsu a oe j dx pn hj hz hfv))).out
    exact p.run pins st σ c.H E I (sm env σ c E hR hF)
  · refine ⟨env, c, rfl, hR, ?_⟩
    unfold sTryAs at hF
    cases er : mb env c.s with
    | none => rw [er] at hF; exact hF
    | some r =>
      obtain ⟨f, s'⟩ := r
      rw [er] at hF
      cases f with
      | nx env' => exact hF
      | rt d => exact hF
      | bk env' => exact hF
      | ct env' => exact hF
      | xc cls fs env' =>
        cases cls with
        | bi n => exact False.elim hF
        | own j =>
          intro σ1 c1 dx gs q R y hd hfs
          cases em : mt j with
          | none => simp only [em] at hF; exact False.elim hF
          | some b =>
            simp only [em] at hF
            refine ⟨b, hm.ex j b em, fun hb1 a ha => ?_, fun hb0 => ?_⟩
            · subst hb1
              refine ⟨j, dx, env'.set i (some (.val (.exn j fs))), c1, em, rfl, rfl, rfl, (R.up hx).set ?_, ?_⟩
              · simp only [Den]
                exact ⟨a, dx, gs, rfl, rfl, hd, (DenF.up hx _ _ hfs).1⟩
              · have hF1 : FS C c0 c W E (sufRes (me (env'.set i (some (.val (.exn j fs)))) s') s') := hF
                unfold sufRes at hF1
                unfold sRet sE
                rw [q]
                cases er2 : me (env'.set i (some (.val (.exn j fs)))) s' with
                | ok d s2 =>
                  rw [er2] at hF1
                  simp only at hF1
                  split at hF1
                  · rename_i hh
                    obtain ⟨rfl, hn⟩ := hh
                    intro v c2 q2 x2 w2 d2
                    exact hF1 v c2 q2 x2 (WF.dn hx R.rl.wf (by rw [q2, q]) w2) (d2.dn _ _ hn)
                  · exact False.elim hF1
                | exc z fs' s2 => rw [er2] at hF1; exact False.elim hF1
                | stuck => rw [er2] at hF1; exact False.elim hF1
            · subst hb0
              exact hF σ1 c1 dx gs q R y hd hfs
/-- without a name -/
def sTryOnly (mt : Nat → Option Bool) (mb ms : SM) : SM := fun env s => match mb env s with
  | some (.xc (.own j) fs env', s') => (match mt j with
    | some true => ms env' s'
    | some false => some (.xc (.own j) fs env', s')
    | none => none)
  | some (.xc (.bi _) _ _, _) => none
  | r => r
theorem s1_tryOnly (k : Nat) {x : Str} {mt : Nat → Option Bool} {body suite : List Stmt} {b₀ : Stmt} {mb ms : SM} {np pos pos' : Pos} (tk : Takes X W) (hm : Mt X.K C k mt) (hc : Names X x (.ref (C.ca k)))
    (hb : ∀ (W' : WX) (pn : List (Addr × Obj)) (xe : Value → Shared → Prop), Takes (X.tr pn xe) W' → PassesOwn (model X.prog X.w) X.A X.env xe → SS (X.tr pn xe) C c0 W' body mb)
    (hsu : ∀ (a : Addr) (oe : Obj) (pn : List (Addr × Obj)), SS (X.suite a ((a, oe) :: pn)) C c0 W (b₀ :: suite) ms)
    (hs : X.stack = X.env :: X.outer := by rfl) (hf : X.env.frame = some X.env.locals := by rfl) :
    SS1 X C c0 W (.Try body [.ExceptHandler (some (.Name x np)) none (b₀ :: suite) pos'] [] [] pos) (sTryOnly mt mb ms) := by
  refine ⟨_, ps_try_only (tb := fun W' => tS C c0 W' mb) (ts := fun a cls d => tS C c0 W ms) hs hf hc tk
    (fun W' pn xe t p => (hb W' pn xe t p).canon) (fun a oe cls d pn hz hfv => (hsu a oe pn).canon), fun env σ c E hR hF => ?_⟩
  refine ⟨env, c, rfl, hR, ?_⟩
  unfold sTryOnly at hF
  cases er : mb env c.s with
  | none => rw [er] at hF; exact hF
  | some r =>
    obtain ⟨f, s'⟩ := r
    rw [er] at hF
    cases f with
    | nx env' => exact hF
    | rt d => exact hF
    | bk env' => exact hF
    | ct env' => exact hF
    | xc cls fs env' =>
      cases cls with
      | bi n => exact False.elim hF
      | own j =>
        intro σ1 c1 dx gs q R y hd hfs
        cases em : mt j with
        | none => simp only [em] at hF; exact False.elim hF
        | some b =>
          simp only [em] at hF
          refine ⟨b, hm.ex j b em, fun hb1 a ha => ?_, fun hb0 => ?_⟩
          · subst hb1
            exact ⟨env', c1, rfl, R, by rw [q]; exact FS.mono y hF⟩
          · subst hb0
            exact hF σ1 c1 dx gs q R y hd hfs
end
/-! ### e.f in a suite -/
def lookF (f : Str) : List (Str × D) → Option D
  | [] => none
  | (g, d) :: r => if f = g then some d else lookF f r
theorem lookF_den {C : Ct} {G : Hp} {ρ : List Addr} {f : Str} : ∀ {fs : List (Str × D)} {gs : List (Str × V)} {d : D}, DenF C G ρ fs gs → lookF f fs = some d → ∃ v, gs.lookup f = some v ∧ Den C G ρ d v
  | [], _, _, _, h => by cases h
  | (g, d') :: r, gs, d, l, h => by
    simp only [DenF] at l
    obtain ⟨v, r', rfl, h1, h2⟩ := l
    unfold lookF at h
    by_cases e : f = g
    · subst e
      rw [if_pos rfl] at h
      cases h
      exact ⟨v, by simp [List.lookup], h1⟩
    · rw [if_neg e] at h
      obtain ⟨u, x, y⟩ := lookF_den h2 h
      exact ⟨u, by rw [List.lookup_cons, show (f == g) = false by simpa using e]; exact x, y⟩
def oXf (f : Str) : D → M D
  | .exn _ fs => optM (lookF f fs)
  | _ => mStuck
def eXf (f : Str) (m : LE → M D) : LE → M D := fun env => m env >>= oXf f
section
variable {X : Cx} {C : Ct} {c0 : Cf} {W : WX}
theorem se_xf {a : Addr} {j : Nat} {dx : Addr} {oe : Obj} {pn : List (Addr × Obj)} {e : Expr} {m : LE → M D} {pos : Pos} {n : Str} (T : XfC X.K (C.ca j)) (hno : PySem.W.findIn X.K (.ref (C.ca j)) n = some none)
    (hz : Zc (.ref (C.ca j)) (some dx) oe) (hf : ∃ vs, oe.data = .fields vs) (he : SE (X.suite a ((a, oe) :: pn)) (C.up (a, C.ca j, dx)) W e m) (hb : attributeBase e n X.env (eval e X.env) = eval e X.env := by rfl) :
    SE (X.suite a ((a, oe) :: pn)) (C.up (a, C.ca j, dx)) W (.Attribute e n pos) (eXf n m) := by
  obtain ⟨t, p, s⟩ := he.out
  refine ⟨_, pe_xf T hno hz hf p hb, fun env σ c Q hR hF => ?_⟩
  refine s env σ c _ hR (Fn.bind hF fun x c1 e1 w1 hF1 v d1 => ?_)
  cases x <;> first | exact False.elim hF1 | skip
  rename_i k fs
  simp only [Den] at d1
  obtain ⟨a', dx', gs, rfl, q, g, l⟩ := d1
  simp only [Ct.up, Option.some.injEq, Prod.mk.injEq] at q
  obtain ⟨rfl, q2, rfl⟩ := q
  have hF2 : Fn (C.up (a, C.ca j, dx)) c1 ((optM (lookF n fs)) c1.s) (KD (C.up (a, C.ca j, dx)) Q) (fun a b H => W a b σ H) := hF1
  cases el : lookF n fs with
  | none => rw [el] at hF2; exact False.elim hF2
  | some d =>
    rw [el] at hF2
    obtain ⟨v, x1, x2⟩ := lookF_den l el
    exact ⟨rfl, rfl, dx, gs, v, rfl, w1.ext _ _ g, x1, Fn.ok w1 hF2 _ x2⟩
end
end DL
set_option Elab.async false
set_option linter.all false
set_option maxRecDepth 100000
set_option maxHeartbeats 2000000
/-! # Built-in functions and types -/
namespace DL
open PySem L2
open PyProof.Rows hiding St
section
variable {X : Cx} {C : Ct} {c0 : Cf} {W : WX}
/-! ### int, max, min -/
def oInt : D → M D
  | .int i => pure (.int i)
  | .bl b => pure (.int (if b then 1 else 0))
  | .str z => guardM (decide (z.length ≤ 640)) >>= fun _ => optM (PySem.intText? z) >>= fun n => pure (.int n)
  | _ => mStuck
def rIntU : List V → Hp → VK → Prop := fun xs H Q => ((∃ i, xs = [.int i] ∧ Q (.int i) H) ∨ ∃ k, xs = [.bl k] ∧ Q (.int (if k then 1 else 0)) H) ∨ ∃ a n, xs = [.str a] ∧ PySem.intText? a = some n ∧ a.length ≤ 640 ∧ Q (.int n) H
theorem call_intU : CallR X (.type "int") rIntU := call_int1.or call_int_str
theorem s_int : SimC C rIntU (on1 oInt) := simC1 fun c d v Q E w dn hF => by
  cases d <;> first | exact False.elim hF | skip
  · cases (show v = _ from dn)
    exact .inl (.inr ⟨_, rfl, Fn.ok w hF _ rfl⟩)
  · cases (show v = _ from dn)
    exact .inl (.inl ⟨_, rfl, Fn.ok w hF _ rfl⟩)
  · cases (show v = _ from dn)
    obtain ⟨hz, hF2⟩ := Fn.guard hF
    obtain ⟨n, en, hF3⟩ := Fn.optM hF2
    exact .inr ⟨_, n, rfl, en, of_decide_eq_true hz, Fn.ok w hF3 _ rfl⟩
def oMax2 : D → D → M D
  | .int i, .int j => pure (.int (if j > i then j else i))
  | _, _ => mStuck
def oMin2 : D → D → M D
  | .int i, .int j => pure (.int (if j < i then j else i))
  | _, _ => mStuck
theorem s_max2 : SimC C (fun xs H Q => ∃ i j, xs = [.int i, .int j] ∧ Q (.int (if j > i then j else i)) H) (on2 oMax2) := simC2 fun c d e v u Q E w dn en hF => by
  cases d <;> first | exact False.elim hF | skip
  cases e <;> first | exact False.elim hF | skip
  cases (show v = _ from dn)
  cases (show u = _ from en)
  exact ⟨_, _, rfl, Fn.ok w hF _ rfl⟩
theorem s_min2 : SimC C (fun xs H Q => ∃ i j, xs = [.int i, .int j] ∧ Q (.int (if j < i then j else i)) H) (on2 oMin2) := simC2 fun c d e v u Q E w dn en hF => by
  cases d <;> first | exact False.elim hF | skip
  cases e <;> first | exact False.elim hF | skip
  cases (show v = _ from dn)
  cases (show u = _ from en)
  exact ⟨_, _, rfl, Fn.ok w hF _ rfl⟩
/-! ### str -/
def oStr : D → M D
  | .str z => pure (.str z)
  | .int i => guardM (decide (i.natAbs.log2 < 1920)) >>= fun _ => pure (.str (toString i))
  | _ => mStuck
def rStrU : List V → Hp → VK → Prop := fun xs H Q => (∃ i, xs = [.int i] ∧ i.natAbs.log2 < 1920 ∧ Q (.str (toString i)) H) ∨ ∃ a, xs = [.str a] ∧ Q (.str a) H
theorem call_strU : CallR X (.type "str") rStrU := call_str_int.or SkE.call_str_str
theorem s_str : SimC C rStrU (on1 oStr) := simC1 fun c d v Q E w dn hF => by
  cases d <;> first | exact False.elim hF | skip
  · cases (show v = _ from dn)
    obtain ⟨hz, hF2⟩ := Fn.guard hF
    exact .inl ⟨_, rfl, of_decide_eq_true hz, Fn.ok w hF2 _ rfl⟩
  · cases (show v = _ from dn)
    exact .inr ⟨_, rfl, Fn.ok w hF _ rfl⟩
/-! ### list, tuple -/
def rdS : D → M (List D)
  | .tup ds => pure ds
  | d => rdL d
theorem rdS_sim {c : Cf} {x : D} {v : V} {β : Type} {f : List D → M β} {K : β → Cf → Prop} {E : XK} (w : WF C c) (dn : Den C c.G c.ρ x v) (h : Fn C c ((rdS x >>= f) c.s) K E) :
    ∃ p vs ds, v = .ref p ∧ (SqL C.K c.H p vs ∨ SqT C.K c.H p vs) ∧ DenL C c.G c.ρ ds vs ∧ Fn C c (f ds c.s) K E := by
  by_cases q : ∃ ds, x = .tup ds
  · obtain ⟨ds, rfl⟩ := q
    obtain ⟨a, vs, rfl, ha, l⟩ := dn
    exact ⟨a, vs, ds, rfl, .inr (w.ext.sqt ha), l, h⟩
  · have h' : Fn C c ((rdL x >>= f) c.s) K E := by
      cases x <;> first | exact h | exact absurd ⟨_, rfl⟩ q
    obtain ⟨p, vs, ds, e, s, l, h2⟩ := rdL_sim w dn h'
    exact ⟨p, vs, ds, e, .inl s, l, h2⟩
def nList : D → M O := fun d => rdS d >>= fun ds => pure (.lst ds)
theorem sn_listB {K : PySem.W.Frag} (hK : K = C.K) : SimCN C (fun xs H Q => ∃ p ys, xs = [.ref p] ∧ (SqL K H p ys ∨ SqT K H p ys) ∧ ∀ l, H l = none → Q (.ref l) (upd H l (.lst ys))) (on1 nList) := simCN1 fun c d v Q E w dn hF => by
  subst hK
  obtain ⟨p, vs, ds, rfl, hq, l, hF2⟩ := rdS_sim w dn hF
  refine ⟨p, vs, rfl, hq, fun a ha => ?_⟩
  obtain ⟨w2, e2⟩ := lay_new (o := .lst vs) w ha
  exact Fn.ok w2 (Fn.mono e2 hF2) a (.of (Ext.refl c) w ha ⟨vs, rfl, l⟩)
def oTuple : D → M D
  | .tup ds => pure (.tup ds)
  | d => rdL d >>= fun ds => pure (.tup ds)
theorem s_tuple {K : PySem.W.Frag} (hK : K = C.K) : SimC C (fun xs H Q => ∃ p ys, xs = [.ref p] ∧ ((SqL K H p ys ∧ ∀ l, H l = none → Q (.ref l) (upd H l (.tup ys))) ∨ (SqT K H p ys ∧ Q (.ref p) H))) (on1 oTuple) := simC1 fun c d v Q E w dn hF => by
  subst hK
  by_cases q : ∃ ds, d = .tup ds
  · obtain ⟨ds, rfl⟩ := q
    have k := Fn.ok w hF v dn
    obtain ⟨a, vs, rfl, ha, l⟩ := dn
    exact ⟨a, vs, rfl, .inr ⟨w.ext.sqt ha, k⟩⟩
  · have h' : Fn C c ((rdL d >>= fun ds => pure (.tup ds)) c.s) (KD C Q) E := by
      cases d <;> first | exact hF | exact absurd ⟨_, rfl⟩ q
    obtain ⟨p, vs, ds, rfl, hq, l, hF2⟩ := rdL_sim w dn h'
    refine ⟨p, vs, rfl, .inl ⟨hq, fun a ha => ?_⟩⟩
    obtain ⟨w2, e2⟩ := lay_frozen (o := .tup vs) w ha
    exact Fn.ok w2 (Fn.mono e2 hF2) _ ⟨a, vs, rfl, SqT.of upd_same, l.mono e2.g e2.pre⟩
/-! ### all, any of a list of bools -/
def blsOf : List D → Option (List Bool)
  | [] => some []
  | .bl b :: ds => (blsOf ds).map (b :: ·)
  | _ => none
theorem blsOf_den {G : Hp} {ρ : List Addr} : ∀ {ds : List D} {bs : List Bool} {vs : List V}, blsOf ds = some bs → DenL C G ρ ds vs → vs = bs.map V.bl
  | [], bs, vs, h, l => by
    cases h
    simp only [DenL] at l
    exact l
  | d :: ds, bs, vs, h, l => by
    simp only [DenL] at l
    obtain ⟨v, r, rfl, d1, d2⟩ := l
    cases d <;> first | (cases h; done) | skip
    obtain ⟨ms, e3, rfl⟩ := Option.map_eq_some_iff.mp h
    cases (show v = _ from d1)
    rw [blsOf_den e3 d2]
    rfl
def oAll (d : D) : M D := rdL d >>= fun ds => optM (blsOf ds) >>= fun bs => pure (.bl (bs.all id))
def oAny (d : D) : M D := rdL d >>= fun ds => optM (blsOf ds) >>= fun bs => pure (.bl (bs.any id))
theorem s_all {K : PySem.W.Frag} (hK : K = C.K) : SimC C (rAll K) (on1 oAll) := simC1 fun c d v Q E w dn hF => by
  subst hK
  obtain ⟨p, vs, ds, rfl, hq, l, hF2⟩ := rdL_sim w dn hF
  obtain ⟨bs, e, hF3⟩ := Fn.optM hF2
  cases blsOf_den e l
  exact ⟨p, bs, rfl, hq, Fn.ok w hF3 _ rfl⟩
theorem s_any {K : PySem.W.Frag} (hK : K = C.K) : SimC C (rAny K) (on1 oAny) := simC1 fun c d v Q E w dn hF => by
  subst hK
  obtain ⟨p, vs, ds, rfl, hq, l, hF2⟩ := rdL_sim w dn hF
  obtain ⟨bs, e, hF3⟩ := Fn.optM hF2
  cases blsOf_den e l
  exact ⟨p, bs, rfl, hq, Fn.ok w hF3 _ rfl⟩
/-! ### sorted of texts -/
def strsOf : List D → Option (List Str)
  | [] => some []
  | .str b :: ds => (strsOf ds).map (b :: ·)
  | _ => none
theorem strsOf_den {G : Hp} {ρ : List Addr} : ∀ {ds : List D} {bs : List Str} {vs : List V}, strsOf ds = some bs → DenL C G ρ ds vs → vs = bs.map V.str
  | [], bs, vs, h, l => by
    cases h
    simp only [DenL] at l
    exact l
  | d :: ds, bs, vs, h, l => by
    simp only [DenL] at l
    obtain ⟨v, r, rfl, d1, d2⟩ := l
    cases d <;> first | (cases h; done) | skip
    obtain ⟨ms, e3, rfl⟩ := Option.map_eq_some_iff.mp h
    cases (show v = _ from d1)
    rw [strsOf_den e3 d2]
    rfl
theorem denStrs {G : Hp} {ρ : List Addr} : ∀ ns : List Str, DenL C G ρ (ns.map .str) (ns.map V.str)
  | [] => .nil
  | n :: ns => .cons rfl (denStrs ns)
def leS (a b : Str) : Bool := !cpsLt b a
theorem leS_iff (a b : Str) : leS a b = true ↔ a.cps.toList ≤ b.cps.toList := by
  unfold leS cpsLt
  rw [Bool.not_eq_true', decide_eq_false_iff_not]
  exact List.not_lt
theorem leS_trans (a b c : Str) (h : leS a b = true) (k : leS b c = true) : leS a c = true := (leS_iff a c).mpr (List.le_trans ((leS_iff a b).mp h) ((leS_iff b c).mp k))
theorem leS_total (a b : Str) : (leS a b || leS b a) = true := by
  rcases List.le_total a.cps.toList b.cps.toList with h | h
  · rw [(leS_iff a b).mpr h]; rfl
  · rw [(leS_iff b a).mpr h, Bool.or_true]
theorem leS_anti (a b : Str) (h : leS a b = true) (k : leS b a = true) : a = b := by
  have e := List.le_antisymm ((leS_iff a b).mp h) ((leS_iff b a).mp k)
  obtain ⟨x⟩ := a
  obtain ⟨y⟩ := b
  congr
  exact Array.toList_inj.mp e
theorem rising_pw : ∀ (p : Str) (ys : List Str), risingS p ys = true → (p :: ys).Pairwise (fun x y => leS x y = true)
  | p, [], _ => by simp
  | p, x :: r, h => by
    simp only [risingS, Bool.and_eq_true] at h
    have ih := rising_pw x r h.2
    have px : leS p x = true := by
      unfold leS cpsLt
      rw [← ltCps_eq]
      exact h.1
    rw [List.pairwise_cons]
    refine ⟨fun y hy => ?_, ih⟩
    rcases List.mem_cons.mp hy with rfl | hy
    · exact px
    · exact leS_trans p x y px ((List.pairwise_cons.mp ih).1 y hy)
def srtS (xs : List Str) : List Str := xs.mergeSort leS
theorem srtS_of {ys xs : List Str} (p : ys.Perm xs) (h : sortedS ys = true) : ys = srtS xs := by
  have pw : ys.Pairwise (fun x y => leS x y = true) := by
    cases ys with
    | nil => simp
    | cons y r => exact rising_pw y r h
  exact PySem.W.Srt.the_of_perm leS leS_trans leS_total leS_anti p pw
def nSortS (d : D) : M O := rdL d >>= fun ds => optM (strsOf ds) >>= fun xs => guardM (decide (xs.length < 64)) >>= fun _ => pure (.lst ((srtS xs).map .str))
theorem sn_sortS {K : PySem.W.Frag} (hK : K = C.K) : SimCN C (rSortedS K) (on1 nSortS) := simCN1 fun c d v Q E w dn hF => by
  subst hK
  obtain ⟨p, vs, ds, rfl, hq, l, hF2⟩ := rdL_sim w dn hF
  obtain ⟨xs, e, hF3⟩ := Fn.optM hF2
  obtain ⟨hz, hF4⟩ := Fn.guard hF3
  cases strsOf_den e l
  refine ⟨p, xs, rfl, hq, of_decide_eq_true hz, fun ys a hp hs ha => ?_⟩
  cases srtS_of hp hs
  obtain ⟨w2, e2⟩ := lay_new (o := .lst ((srtS xs).map V.str)) w ha
  exact Fn.ok w2 (Fn.mono e2 hF4) a (.of (Ext.refl c) w ha ⟨_, rfl, denStrs _⟩)
end
end DL
set_option Elab.async false
set_option linter.all false
set_option maxRecDepth 100000
set_option maxHeartbeats 2000000
/-! # What is told of a value: repr, ==, in, isinstance -/
namespace DL
open PySem L2
open PyProof.Rows hiding St
/-! ### a value as plain Python data -/
def leafD : D → Option PyData
  | .non => some .none
  | .bl b => some (.bool b)
  | .int i => some (.int i)
  | .str s => some (.str s)
  | _ => none
def keyPy : Key → PyData
  | .inl i => .int i
  | .inr x => .str x
def leafK : List (Key × D) → Option (List (PyData × PyData))
  | [] => some []
  | (k, d) :: r => (leafD d).bind fun p => (leafK r).map ((keyPy k, p) :: ·)
def D.py2 : D → Option PyData
  | .dct kvs => (leafK kvs).map .dict
  | d => d.py
def pyM : D → M PyData
  | .loc n => fun s => match s[n]? with
    | some (some (.lst ds)) => (optM ((pyL ds).map .list) : M PyData) s
    | some (some (.dct kvs)) => (optM ((leafK kvs).map .dict) : M PyData) s
    | _ => .stuck
  | d => optM d.py2
inductive LeafP : V → PyData → Prop where
  | non : LeafP .non .none
  | bl (b : Bool) : LeafP (.bl b) (.bool b)
  | int (i : Int) : LeafP (.int i) (.int i)
  | str (x : Str) : LeafP (.str x) (.str x)
inductive LeafKP : List (Key × V) → List (PyData × PyData) → Prop where
  | nil : LeafKP [] []
  | cons {k : Key} {v : V} {p : PyData} {r : List (Key × V)} {ps : List (PyData × PyData)} : LeafP v p → LeafKP r ps → LeafKP ((k, v) :: r) ((keyPy k, p) :: ps)
/-- how the heap bears such data -/
def Rd (K : PySem.W.Frag) (H : Hp) (v : V) (p : PyData) : Prop := Dp K H v p ∨ ∃ a ws kvs, v = .ref a ∧ H a = some (.dK ws) ∧ LeafKP ws kvs ∧ p = .dict kvs
section
variable {C : Ct}
theorem leafD_p {G : Hp} {ρ : List Addr} {d : D} {p : PyData} {v : V} (e : leafD d = some p) (h : Den C G ρ d v) : LeafP v p := by
  cases d <;> first | (cases e; done) | skip
  all_goals
    cases e
    cases (show v = _ from h)
  · exact .non
  · exact .bl _
  · exact .int _
  · exact .str _
theorem leafK_p {G : Hp} {ρ : List Addr} : ∀ {kvs : List (Key × D)} {ps : List (PyData × PyData)} {ws : List (Key × V)}, leafK kvs = some ps → DenK C G ρ kvs ws → LeafKP ws ps
  | [], ps, ws, e, h => by
    cases e
    simp only [DenK] at h
    subst h
    exact .nil
  | (k, d) :: r, ps, ws, e, h => by
    simp only [DenK] at h
    obtain ⟨v, r', rfl, h1, h2⟩ := h
    obtain ⟨p, e1, e2⟩ := Option.bind_eq_some_iff.mp e
    obtain ⟨qs, e3, rfl⟩ := Option.map_eq_some_iff.mp e2
    exact .cons (leafD_p e1 h1) (leafK_p e3 h2)
theorem py2_rd {c : Cf} {d : D} {v : V} {p : PyData} (w : WF C c) (dn : Den C c.G c.ρ d v) (e : d.py2 = some p) : Rd C.K c.H v p := by
  by_cases q : ∃ kvs, d = .dct kvs
  · obtain ⟨kvs, rfl⟩ := q
    obtain ⟨a, ws, rfl, ha, l⟩ := dn
    obtain ⟨ps, e1, rfl⟩ := Option.map_eq_some_iff.mp (show (leafK kvs).map PyData.dict = some p from e)
    exact .inr ⟨a, ws, ps, rfl, w.ext _ _ ha, leafK_p e1 l, rfl⟩
  · have e' : d.py = some p := by
      cases d <;> first | exact e | exact absurd ⟨_, rfl⟩ q
    exact .inl (Den.dp w.ext d v p dn e')
theorem pyM_sim {c : Cf} {d : D} {v : V} {β : Type} {f : PyData → M β} {K : β → Cf → Prop} {E : XK} (w : WF C c) (dn : Den C c.G c.ρ d v) (h : Fn C c ((pyM d >>= f) c.s) K E) : ∃ p, Rd C.K c.H v p ∧ Fn C c (f p c.s) K E := by
  by_cases q : ∃ n, d = .loc n
  · obtain ⟨n, rfl⟩ := q
    obtain ⟨a, rfl, ha⟩ := dn
    have h' : Fn C c (R.bind (match c.s[n]? with
      | some (some (.lst ds)) => (optM ((pyL ds).map .list) : M PyData) c.s
      | some (some (.dct kvs)) => (optM ((leafK kvs).map .dict) : M PyData) c.s
      | _ => .stuck) f) K E := h
    cases q : c.s[n]? with
    | none => rw [q] at h'; exact False.elim h'
    | some o =>
      cases o with
      | none => rw [q] at h'; exact False.elim h'
      | some o =>
        obtain ⟨b, ho, r1, r2, r3, r4⟩ := w.cel n
          o q
        rw [ha] at r1
        cases r1
        cases o with
        | lst ds =>
          rw [q] at h'
          obtain ⟨vs, rfl, l⟩ := r4
          cases e : pyL ds with
          | none => simp only [e] at h'; exact False.elim h'
          | some ps =>
            simp only [e] at h'
            refine ⟨.list ps, .inl ?_, h'⟩
            exact .lst (SqL.of r3) (DenL.dp w.ext ds vs ps l e)
        | dct kvs =>
          rw [q] at h'
          obtain ⟨ws, rfl, l⟩ := r4
          cases e : leafK kvs with
          | none => simp only [e] at h'; exact False.elim h'
          | some ps =>
            simp only [e] at h'
            exact ⟨.dict ps, .inr ⟨a, ws, ps, rfl, r3, leafK_p e l, rfl⟩, h'⟩
        | ins _ _ => rw [q] at h'; exact False.elim h'
  · have h' : Fn C c (((optM d.py2 : M PyData) >>= f) c.s) K E := by
      cases d <;> first | exact h | exact absurd ⟨_, rfl⟩ q
    obtain ⟨p, e, h2⟩ := Fn.optM h'
    exact ⟨p, py2_rd w dn e, h2⟩
end
/-! ### repr -/
def showOk (p : PyData) : Bool := p.showable && (decide (p.depth ≤ 40) && szOk p.shown.length) && (match p with | .dict _ => true | p => !p.hasDict)
def oRepr (d : D) : M D := pyM d >>= fun p => guardM (showOk p) >>= fun _ => pure (.str p.shown)
def rRepr (K : PySem.W.Frag) : List V → Hp → VK → Prop := fun xs H Q => ∃ v p, xs = [v] ∧ Rd K H v p ∧ showOk p = true ∧ Q (.str p.shown) H
theorem leafP_reads {h : Heap} {v : V} {p : PyData} {u : Value} (l : LeafP v p) (r : RelV v u) : Reads h u p [] := by
  cases l with
  | non => cases r; exact .none
  | bl b => cases r; exact .bool b
  | int i => obtain ⟨t, rfl⟩ := r; exact .int i t
  | str x => obtain ⟨t, rfl⟩ := r; exact .str x t
theorem keyPy_reads {h : Heap} {k : Key} {u : Value} (e : keyIs k u = true) : Reads h u (keyPy k) [] := by
  rcases keyIs_shape e with ⟨i, t, rfl, rfl⟩ | ⟨x, t, rfl, rfl⟩
  · exact .int i t
  · exact .str x t
theorem leafKP_reads {prog : Program} {w : World} {h : Heap} : ∀ {ws : List (Key × V)} {ps : List (PyData × PyData)} {vs : List (Key × Value)} {es : List DictEntry}, LeafKP ws ps → L2.KV ws vs → Pairs (mixKind prog w) es vs →
    ReadsAll h (es.map (·.key)) (ps.map (·.1)) [] ∧ ReadsAll h (es.map (·.val)) (ps.map (·.2)) []
  | _, _, _, _, LeafKP.nil, Paired.nil, Pairs.nil => ⟨ReadsAll.nil, ReadsAll.nil⟩
  | _, _, _, _, LeafKP.cons l lr, Paired.cons k kr, Pairs.cons p1 p2 p3 => by
    obtain ⟨q1, q2⟩ := leafKP_reads (prog := prog) (w := w) (h := h) lr kr p3
    obtain ⟨rfl, k2⟩ := k
    exact ⟨ReadsAll.cons (as := []) (bs := []) (keyPy_reads p1) q1, ReadsAll.cons (as := []) (bs := []) (by have z := leafP_reads (h := h) l k2; rw [← p2] at z; exact z) q2⟩
section
variable {X : Cx}
theorem call_reprU (hg : X.A.guards = some []) (hu : X.A.units + 64 < cLine) : CallR X (.builtin "repr") (rRepr X.K) := by
  intro pins s σ H xs us Q I r h
  obtain ⟨v, p, rfl, rd, ok, q⟩ := h
  obtain ⟨u, rfl, ru⟩ := vals1 r
  unfold showOk at ok
  simp only [Bool.and_eq_true, decide_eq_true_eq] at ok
  obtain ⟨⟨hs, hd, hz⟩, hdict⟩ := ok
  have hz' : p.shown.length ≤ sizeLine := szOk_line hz
  have fin : ∀ {h' : Heap} {tk t2 : Nat}, (∀ b o, s.heap.get? b = some o → h'.get? b = some o) → EP X pins σ Q (.str p.shown tk) { s with heap := h', toks := t2 } := fun {h' tk t2} k => ⟨.str p.shown, H, I.kept (t' := t2) k, ⟨_, rfl⟩, q⟩
  rcases rd with dp | ⟨a, ws, kvs, rfl, ha, lk, rfl⟩
  · have hnd : p.hasDict = false := by
      cases p <;> first | (simpa using hdict) | skip
      cases dp
    obtain ⟨as, rr⟩ := Dp.reads I p v u dp ru
    cases dp with
    | non => cases ru; exact PySem.P.repr_of_none (fin (h' := s.heap) fun _ _ z => z)
    | bl b => cases ru; exact PySem.P.repr_of_bool (fin (h' := s.heap) fun _ _ z => z)
    | int i =>
      obtain ⟨t, rfl⟩ := ru
      exact PySem.P.repr_of_int (by simpa [PyData.showable] using hs) (fin (h' := s.heap) fun _ _ z => z)
    | str x =>
      obtain ⟨t, rfl⟩ := ru
      exact PySem.P.repr_of_str (fin (h' := s.heap) fun _ _ z => z) hz'
    | lst h1 h2 =>
      cases ru
      exact repr_of_reads' rr hs (PyData.noDict_hsm hnd) hg (by omega) (fun _ _ z => z) (fun h' u tk k => fin k) hz'
    | tup h1 h2 =>
      cases ru
      exact repr_of_reads' rr hs (PyData.noDict_hsm hnd) hg (by omega) (fun _ _ z => z) (fun h' u tk k => fin k) hz'
  · cases ru
    obtain ⟨_, hsys, vs, kv, o, es, ep, ho, hx, hdt, hk, hp, _⟩ := (show ObjOk X.prog X.w H s.heap a (.dK ws) from I.hok a _ ha)
    obtain ⟨r1, r2⟩ := leafKP_reads (h := s.heap) lk kv hp
    exact repr_of_reads' (Reads.dict ho hx.1 hdt r1 r2) hs (fun _ => by
      simp only [List.append_nil, List.mem_cons, List.not_mem_nil, or_false]
      exact fun z => by rw [← z] at hsys; simp at hsys) hg (by omega) (fun _ _ z => z) (fun h' u tk k => fin k) hz'
end
theorem s_repr {C : Ct} {K : PySem.W.Frag} (hK : K = C.K) : SimC C (rRepr K) (on1 oRepr) := simC1 fun c d v Q E w dn hF => by
  subst hK
  obtain ⟨p, rd, hF2⟩ := pyM_sim w dn hF
  obtain ⟨ok, hF3⟩ := Fn.guard hF2
  exact ⟨v, p, rfl, rd, ok, Fn.ok w hF3 _ rfl⟩
end DL
set_option Elab.async false
set_option linter.all false
set_option maxRecDepth 100000
set_option maxHeartbeats 2000000
namespace DL
open PySem L2
open PyProof.Rows hiding St
section
variable {X : Cx} {C : Ct} {c0 : Cf} {W : WX}
/-! ### ==, != with the store read -/
def eqM (x y : D) : M Bool := match leafEq x y with
  | some b => pure b
  | none => pyM x >>= fun p => pyM y >>= fun q => guardM (SeqAt.shaped p && SeqAt.shaped q) >>= fun _ => pure (PyData.eqv p q)
def oEqS (x y : D) : M D := eqM x y >>= fun b => pure (.bl b)
def oNeS (x y : D) : M D := eqM x y >>= fun b => pure (.bl (!b))
theorem rd_dp {K : PySem.W.Frag} {H : Hp} {v : V} {p : PyData} (r : Rd K H v p) (s : SeqAt.shaped p = true) : Dp K H v p := by
  rcases r with r | ⟨a, ws, kvs, rfl, h, l, rfl⟩
  · exact r
  · have := PyData.hasDict_of_canLay _ (SeqAt.canLay_of_shaped s)
    simp [PyData.hasDict] at this
theorem s_eqS : SimO C (rEqU C.K) oEqS := by
  intro c x y v w Q E wf dx dy hF
  cases e : leafEq x y with
  | some b =>
    refine s_eq c x y v w Q E wf dx dy ?_
    have hF' : Fn C c (((match leafEq x y with
      | some b => pure b
      | none => pyM x >>= fun p => pyM y >>= fun q => guardM (SeqAt.shaped p && SeqAt.shaped q) >>= fun _ => pure (PyData.eqv p q) : M Bool) >>= fun b => pure (.bl b)) c.s) (KD C Q) E := hF
    rw [e] at hF'
    show Fn C c ((optM (eqD? x y) >>= fun b => pure (.bl b)) c.s) (KD C Q) E
    unfold eqD?
    rw [e]
    exact hF'
  | none =>
    have hF' : Fn C c (((match leafEq x y with
      | some b => pure b
      | none => pyM x >>= fun p => pyM y >>= fun q => guardM (SeqAt.shaped p && SeqAt.shaped q) >>= fun _ => pure (PyData.eqv p q) : M Bool) >>= fun b => pure (.bl b)) c.s) (KD C Q) E := hF
    rw [e] at hF'
    simp only [bind_assoc'] at hF'
    obtain ⟨p, rp, h1⟩ := pyM_sim wf dx hF'
    obtain ⟨q, rq, h2⟩ := pyM_sim wf dy h1
    obtain ⟨g, h3⟩ := Fn.guard h2
    rw [Bool.and_eq_true] at g
    exact .inr ⟨p, q, rd_dp rp g.1, rd_dp rq g.2, g.1, g.2, Fn.ok wf h3 _ rfl⟩
theorem s_neS : SimO C (rNeU C.K) oNeS := by
  intro c x y v w Q E wf dx dy hF
  cases e : leafEq x y with
  | some b =>
    refine s_ne c x y v w Q E wf dx dy ?_
    have hF' : Fn C c (((match leafEq x y with
      | some b => pure b
      | none => pyM x >>= fun p => pyM y >>= fun q => guardM (SeqAt.shaped p && SeqAt.shaped q) >>= fun _ => pure (PyData.eqv p q) : M Bool) >>= fun b => pure (.bl (!b))) c.s) (KD C Q) E := hF
    rw [e] at hF'
    show Fn C c ((optM (eqD? x y) >>= fun b => pure (.bl (!b))) c.s) (KD C Q) E
    unfold eqD?
    rw [e]
    exact hF'
  | none =>
    have hF' : Fn C c (((match leafEq x y with
      | some b => pure b
      | none => pyM x >>= fun p => pyM y >>= fun q => guardM (SeqAt.shaped p && SeqAt.shaped q) >>= fun _ => pure (PyData.eqv p q) : M Bool) >>= fun b => pure (.bl (!b))) c.s) (KD C Q) E := hF
    rw [e] at hF'
    simp only [bind_assoc'] at hF'
    obtain ⟨p, rp, h1⟩ := pyM_sim wf dx hF'
    obtain ⟨q, rq, h2⟩ := pyM_sim wf dy h1
    obtain ⟨g, h3⟩ := Fn.guard h2
    rw [Bool.and_eq_true] at g
    exact .inr ⟨p, q, rd_dp rp g.1, rd_dp rq g.2, g.1, g.2, Fn.ok wf h3 _ rfl⟩
/-! ### in, not in -/
def flatD : D → Option V
  | .non => some .non
  | .bl b => some (.bl b)
  | .int i => some (.int i)
  | .str s => some (.str s)
  | _ => none
def flatsD : List D → Option (List V)
  | [] => some []
  | d :: ds => (flatD d).bind fun v => (flatsD ds).map (v :: ·)
theorem flatD_den {G : Hp} {ρ : List Addr} {d : D} {v u : V} (e : flatD d = some u) (h : Den C G ρ d v) : v = u ∧ flatV u = true := by
  cases d <;> first | (cases e; done) | skip
  all_goals
    cases e
    exact ⟨h, rfl⟩
theorem flatsD_den {G : Hp} {ρ : List Addr} : ∀ {ds : List D} {us vs : List V}, flatsD ds = some us → DenL C G ρ ds vs → vs = us ∧ us.all flatV = true
  | [], us, vs, e, h => by
    cases e
    simp only [DenL] at h
    exact ⟨h, rfl⟩
  | d :: ds, us, vs, e, h => by
    simp only [DenL] at h
    obtain ⟨v, r, rfl, h1, h2⟩ := h
    obtain ⟨u, e1, e2⟩ := Option.bind_eq_some_iff.mp e
    obtain ⟨ws, e3, rfl⟩ := Option.map_eq_some_iff.mp e2
    obtain ⟨rfl, f1⟩ := flatD_den e1 h1
    obtain ⟨rfl, f2⟩ := flatsD_den e3 h2
    exact ⟨rfl, by simp [f1, f2]⟩
def inM (x y : D) : M Bool := match y with
  | .str z => (match x with
    | .str t => (match t.cps.toList with
      | [n] => pure (decide (n ∈ z.cps.toList))
      | _ => mStuck)
    | _ => mStuck)
  | y => rdS y >>= fun ds => optM (flatD x) >>= fun u => optM (flatsD ds) >>= fun us => pure (inV u us)
def oIn (x y : D) : M D := inM x y >>= fun b => pure (.bl b)
def oNotIn (x y : D) : M D := inM x y >>= fun b => pure (.bl (!b))
def rInU (K : PySem.W.Frag) (neg : Bool) : R2 := fun x y H Q => rIn K neg x y H Q ∨ ∃ (c : Nat) (z : Str), x = .str ⟨#[c]⟩ ∧ y = .str z ∧ Q (.bl (if neg then !decide (c ∈ z.cps.toList) else decide (c ∈ z.cps.toList))) H
theorem op_inU : OpR X (compareOp .In) (rInU X.K false) := op_in_seq.or op_in_sign
theorem op_notInU : OpR X (compareOp .NotIn) (rInU X.K true) := op_notIn_seq.or op_notIn_sign
theorem s_inG (neg : Bool) : SimO C (rInU C.K neg) (fun x y => inM x y >>= fun b => pure (.bl (if neg then !b else b))) := by
  intro c x y v w Q E wf dx dy hF
  by_cases q : ∃ z, y = .str z
  · obtain ⟨z, rfl⟩ := q
    cases (show w = _ from dy)
    cases x <;> first | exact False.elim hF | skip
    rename_i t
    cases (show v = _ from dx)
    have hF' : Fn C c (((match t.cps.toList with
      | [n] => pure (decide (n ∈ z.cps.toList))
      | _ => mStuck : M Bool) >>= fun b => pure (.bl (if neg then !b else b))) c.s) (KD C Q) E := hF
    obtain ⟨⟨l⟩⟩ := t
    match l, hF' with
    | [], h => exact False.elim h
    | [n], h => exact .inr ⟨n, z, rfl, rfl, Fn.ok wf h _ rfl⟩
    | _ :: _ :: _, h => exact False.elim h
  · have e0 : inM x y = (rdS y >>= fun ds => (optM (flatD x) : M V) >>= fun u => (optM (flatsD ds) : M (List V)) >>= fun us => (pure (inV u us) : M Bool)) := by
      cases y <;> first | rfl | exact absurd ⟨_, rfl⟩ q
    have hF' : Fn C c ((inM x y >>= fun b => (pure (.bl (if neg then !b else b)) : M D)) c.s) (KD C Q) E := hF
    rw [e0] at hF'
    simp only [bind_assoc'] at hF'
    obtain ⟨p, vs, ds, rfl, hq, l, h1⟩ := rdS_sim wf dy hF'
    obtain ⟨u, e1, h2⟩ := Fn.optM h1
    obtain ⟨us, e2, h3⟩ := Fn.optM h2
    obtain ⟨rfl, f1⟩ := flatD_den e1 dx
    obtain ⟨rfl, f2⟩ := flatsD_den e2 l
    exact .inl ⟨p, vs, rfl, hq, f1, f2, Fn.ok wf h3 _ rfl⟩
theorem s_in : SimO C (rInU C.K false) oIn := s_inG false
theorem s_notIn : SimO C (rInU C.K true) oNotIn := s_inG true
/-! ### is True, is False -/
def oIsB (x y : D) : M D := match x, y with
  | .bl a, .bl b => pure (.bl (a == b))
  | _, _ => mStuck
def oIsNotB (x y : D) : M D := match x, y with
  | .bl a, .bl b => pure (.bl (!(a == b)))
  | _, _ => mStuck
def rIsB (neg : Bool) : R2 := fun x y H Q => ∃ a b, x = .bl a ∧ y = .bl b ∧ Q (.bl (if neg then !(a == b) else a == b)) H
theorem op_isB : OpR X (compareOp .Is) (rIsB false) := by
  intro pins s σ H x y v u Q I rx ry h
  obtain ⟨a, b, rfl, rfl, q⟩ := h
  cases rx
  cases ry
  exact is_bool (fin_bl I q rfl)
theorem op_isNotB : OpR X (compareOp .IsNot) (rIsB true) := by
  intro pins s σ H x y v u Q I rx ry h
  obtain ⟨a, b, rfl, rfl, q⟩ := h
  cases rx
  cases ry
  exact isnot_bool (fin_bl I q rfl)
theorem s_isB : SimO C (rIsB false) oIsB := by
  intro c x y v w Q E wf dx dy hF
  cases x <;> first | exact False.elim hF | skip
  cases y <;> first | exact False.elim hF | skip
  exact ⟨_, _, dx, dy, Fn.ok wf hF _ rfl⟩
theorem s_isNotB : SimO C (rIsB true) oIsNotB := by
  intro c x y v w Q E wf dx dy hF
  cases x <;> first | exact False.elim hF | skip
  cases y <;> first | exact False.elim hF | skip
  exact ⟨_, _, dx, dy, Fn.ok wf hF _ rfl⟩
end
end DL
set_option Elab.async false
set_option linter.all false
set_option maxRecDepth 100000
set_option maxHeartbeats 2000000
namespace DL
open PySem L2
open PyProof.Rows hiding St
/-! ### isinstance with a built-in type -/
inductive Ty0 where
  | non | bl | int | str | tup | lst | dct
  deriving DecidableEq
def Ty0.name : Ty0 → String
  | .non => "NoneType" | .bl => "bool" | .int => "int" | .str => "str" | .tup => "tuple" | .lst => "list" | .dct => "dict"
def Ty0.le : Ty0 → Ty0 → Bool
  | .bl, .int => true
  | a, b => decide (a = b)
theorem Ty0.kit (a b : Ty0) : kitB a.name b.name = some (a.le b) := by
  cases a <;> cases b <;> decide +kernel
/-- a value's built-in type, or its own class -/
inductive TyD where
  | bi (t : Ty0) | own (k : Nat)
def tyM : D → M TyD
  | .non => pure (.bi .non)
  | .bl _ => pure (.bi .bl)
  | .int _ => pure (.bi .int)
  | .str _ => pure (.bi .str)
  | .tup _ => pure (.bi .tup)
  | .lst _ | .scr _ => pure (.bi .lst)
  | .dct _ => pure (.bi .dct)
  | .loc n => fun s => match s[n]? with
    | some (some (.lst _)) => .ok (.bi .lst) s
    | some (some (.dct _)) => .ok (.bi .dct) s
    | some (some (.ins k _)) => .ok (.own k) s
    | _ => .stuck
  | _ => mStuck
section
variable {X : Cx} {C : Ct} {c0 : Cf} {W : WX}
theorem sqL_ty {K : PySem.W.Frag} {H : Hp} {a : Addr} {xs : List V} (h : SqL K H a xs) : TyX K H (.ref a) (.type "list") := by
  rcases h with (h | ⟨o, h⟩) | ⟨o, its, m, h, hc, _⟩
  · exact .base (.lst h)
  · exact .base (.frz h)
  · exact .kList h hc
theorem sqT_ty {K : PySem.W.Frag} {H : Hp} {a : Addr} {xs : List V} (h : SqT K H a xs) : TyX K H (.ref a) (.type "tuple") := by
  rcases h with (h | ⟨o, h⟩) | ⟨o, its, m, h, hc, _⟩
  · exact .base (.tup h)
  · exact .fTuple h
  · exact .kTuple h hc
/-- what the own classes' instances ask -/
structure InsT (K : PySem.W.Frag) (A : Addr) : Prop where
  cl : Cls K A
  ha : PySem.W.findIn K (.ref A) "__class__" = some (some (.builtin "object.__class__"))
  hn : PySem.W.specialIn K (.builtin "object.__class__") "__get__" = some (some (.builtin "getset_descriptor.__get__"))
  ht : PySem.W.takesIn K (.builtin "object.__class__") = some true
  hm : PySem.W.mroIn K A (.type "object") = some true
theorem tyM_sim {c : Cf} {d : D} {v : V} {β : Type} {f : TyD → M β} {K : β → Cf → Prop} {E : XK} (w : WF C c) (dn : Den C c.G c.ρ d v) (h : Fn C c ((tyM d >>= f) c.s) K E) :
    (∃ t, TyX C.K c.H v (.type (Ty0.name t)) ∧ Fn C c (f (.bi t) c.s) K E) ∨ ∃ k a dx gs, v = .ref a ∧ c.H a = some (.ins (C.ca k) dx gs) ∧ Fn C c (f (.own k) c.s) K E := by
  cases d <;> first | exact False.elim h | skip
  · cases (show v = _ from dn); exact .inl ⟨.non, .base .non, h⟩
  · cases (show v = _ from dn); exact .inl ⟨.bl, .base (.bl _), h⟩
  · cases (show v = _ from dn); exact .inl ⟨.int, .base (.int _), h⟩
  · cases (show v = _ from dn); exact .inl ⟨.str, .base (.str _), h⟩
  · obtain ⟨a, vs, rfl, ha, l⟩ := dn; exact .inl ⟨.tup, sqT_ty (w.ext.sqt ha), h⟩
  · obtain ⟨a, vs, rfl, ha, l⟩ := dn; exact .inl ⟨.lst, .base (.lst (w.ext _ _ ha)), h⟩
  · obtain ⟨a, vs, rfl, ha, l⟩ := dn; exact .inl ⟨.dct, .base (.dK (w.ext _ _ ha)), h⟩
  · obtain ⟨a, rfl, ha⟩ := dn; exact .inl ⟨.lst, sqL_ty (w.ext.sql ha), h⟩
  · rename_i n
    obtain ⟨a, rfl, ha⟩ := dn
    have h' : Fn C c (R.bind (match c.s[n]? with
      | some (some (.lst _)) => .ok (.bi .lst) c.s
      | some (some (.dct _)) => .ok (.bi .dct) c.s
      | some (some (.ins k _)) => .ok (.own k) c.s
      | _ => .stuck) f) K E := h
    cases q : c.s[n]? with
    | none => rw [q] at h'; exact False.elim h'
    | some o =>
      cases o with
      | none => rw [q] at h'; exact False.elim h'
      | some o =>
        obtain ⟨b, ho, r1, r2, r3, r4⟩ := w.cel n o q
        rw [ha] at r1
        cases r1
        rw [q] at h'
        cases o with
        | lst ds => obtain ⟨vs, rfl, l⟩ := r4; exact .inl ⟨.lst, .base (.lst r3), h'⟩
        | dct ds => obtain ⟨vs, rfl, l⟩ := r4; exact .inl ⟨.dct, .base (.dK r3), h'⟩
        | ins k fs => obtain ⟨dx, gs, rfl, g, l⟩ := r4; exact .inr ⟨k, a, dx, gs, rfl, r3, h'⟩
/-- isinstance(e, T) -/
def oIsT (sub : Nat → Option Bool) (b : Ty0) (d : D) : M D := tyM d >>= fun t => match t with
  | .bi a => pure (.bl (a.le b))
  | .own k => optM (sub k) >>= fun r => pure (.bl r)
def eIsT (sub : Nat → Option Bool) (b : Ty0) (m : LE → M D) : LE → M D := fun env => m env >>= oIsT sub b
/-- which own classes' instances are instances of cv -/
structure SubT (K : PySem.W.Frag) (C : Ct) (cv : Value) (sub : Nat → Option Bool) : Prop where
  ex : ∀ k r, sub k = some r → InsT K (C.ca k) ∧ PySem.W.kitOne K (.ref (C.ca k)) cv = some r
def noSub : Nat → Option Bool := fun _ => none
theorem SubT.no {K : PySem.W.Frag} {C : Ct} {cv : Value} : SubT K C cv noSub := ⟨fun k r h => by cases h⟩
theorem se_isT {x : Str} {e : Expr} {m : LE → M D} {sub : Nat → Option Bool} {p p2 pos : Pos} (b : Ty0) (hm : X.mg "isinstance" = none) (hmx : X.mg x = none) (st : SubT X.K C (.type b.name) sub) (h : SE X C W e m) (hK : X.K = C.K := by rfl) (hv : bootBuiltins x = some (.type b.name) := by rfl) (hg : Gl X "isinstance" := by rfl) (hgx : Gl X x := by rfl)
    (hn : x ≠ "__name__" := by decide) (hdb : (x == ("__debug__" : Str)) = false := by decide) (he : starEach (e :: [.Name x p2]) X.env = (false, eval e X.env) :: starEach [.Name x p2] X.env := by rfl) (he2 : starEach (.Name x p2 :: []) X.env = (false, eval (.Name x p2) X.env) :: starEach [] X.env := by rfl)
    (hpl : (backTo pos (starEach [.Name x p2] X.env)).any (·.1) = false := by rfl) : SE X C W (.Call (.Name "isinstance" p) [e, .Name x p2] [] pos) (eIsT sub b m) := by
  obtain ⟨t, pe, se⟩ := h.out
  refine ⟨_, pe_callB call_isi hg hm (by rfl) (pa_cons pe (pa_cons (pe_bltn (v := .ty b.name) hgx hmx hv rfl hn hdb) pa_nil he2) he) (by decide) (by decide) he hpl, fun env σ c Q hR hF => ?_⟩
  refine se env σ c _ hR (Fn.bind hF fun d c1 e1 w1 hF1 v dn => ?_)
  rcases tyM_sim w1 dn hF1 with ⟨t, ty, h2⟩ | ⟨k, a, dx, gs, rfl, ha, h2⟩
  · exact ⟨v, .ty b.name, _, _, _, rfl, .ty _, by rw [hK]; exact ty, kit_ty (t.kit b), Fn.ok w1 h2 _ rfl⟩
  · obtain ⟨r, er, h3⟩ := Fn.optM h2
    obtain ⟨it, ek⟩ := st.ex k r er
    exact ⟨_, .ty b.name, _, _, _, rfl, .ty _, .base (.ins ha it.cl it.ha it.hn it.ht it.hm), ek, Fn.ok w1 h3 _ rfl⟩
/-- isinstance(e, X), X an own class -/
def oIsC (no : Bool) (sub : Nat → Option Bool) (d : D) : M D := tyM d >>= fun t => match t with
  | .bi a => guardM no >>= fun _ => pure (.bl false)
  | .own k => optM (sub k) >>= fun r => pure (.bl r)
def eIsC (sub : Nat → Option Bool) (m : LE → M D) : LE → M D := fun env => m env >>= oIsC true sub
theorem se_isC {x : Str} {A : Addr} {e : Expr} {m : LE → M D} {sub : Nat → Option Bool} {p p2 pos : Pos} (hm : X.mg "isinstance" = none) (hmx : X.mg x = some (.ref A)) (st : SubT X.K C (.ref A) sub) (no : ∀ a : Ty0, PySem.W.kitOne X.K (.type a.name) (.ref A) = some false) (h : SE X C W e m) (hK : X.K = C.K := by rfl) (hg : Gl X "isinstance" := by rfl) (hgx : Gl X x := by rfl)
    (hdb : (x == ("__debug__" : Str)) = false := by decide) (he : starEach (e :: [.Name x p2]) X.env = (false, eval e X.env) :: starEach [.Name x p2] X.env := by rfl) (he2 : starEach (.Name x p2 :: []) X.env = (false, eval (.Name x p2) X.env) :: starEach [] X.env := by rfl)
    (hpl : (backTo pos (starEach [.Name x p2] X.env)).any (·.1) = false := by rfl) : SE X C W (.Call (.Name "isinstance" p) [e, .Name x p2] [] pos) (eIsC sub m) := by
  obtain ⟨t, pe, se⟩ := h.out
  refine ⟨_, pe_callB call_isi hg hm (by rfl) (pa_cons pe (pa_cons (pe_glob (v := .ref A) hgx hmx rfl hdb) pa_nil he2) he) (by decide) (by decide) he hpl, fun env σ c Q hR hF => ?_⟩
  refine se env σ c _ hR (Fn.bind hF fun d c1 e1 w1 hF1 v dn => ?_)
  rcases tyM_sim w1 dn hF1 with ⟨t, ty, h2⟩ | ⟨k, a, dx, gs, rfl, ha, h2⟩
  · obtain ⟨_, h3⟩ := Fn.guard h2
    exact ⟨v, .ref A, _, _, _, rfl, .own _, by rw [hK]; exact ty, no t, Fn.ok w1 h3 _ rfl⟩
  · obtain ⟨r, er, h3⟩ := Fn.optM h2
    obtain ⟨it, ek⟩ := st.ex k r er
    exact ⟨_, .ref A, _, _, _, rfl, .own _, .base (.ins ha it.cl it.ha it.hn it.ht it.hm), ek, Fn.ok w1 h3 _ rfl⟩
end
end DL
set_option Elab.async false
set_option linter.all false
set_option maxRecDepth 100000
set_option maxHeartbeats 4000000
/-! # isinstance of a caught error that has a dict -/
namespace PySem.ErrX
open PySem PySem.Spec PySem.Calls PyProof.Rows PySem.W
section
variable {prog : Program} {w : World} {A : Around} {E : Value → Shared → Prop} {s : Shared} {K : Frag} {x D : Addr} {ox od : Obj}
/-- what an own error's class must say -/
structure ErrIs (K : Frag) (D : Addr) : Prop where
  ga : findIn K (.ref D) "__getattribute__" = some (some (.builtin "BaseException.__getattribute__"))
  gt : findIn K (.ref D) "__getattr__" = some none
  sb : subIn K (.ref D) (.type "BaseException") = some true
  hd : hasDictIn K D = true
  ac : findIn K (.ref D) "__class__" = some (some (.builtin "object.__class__"))
  sn : specialIn K (.builtin "object.__class__") "__get__" = some (some (.builtin "getset_descriptor.__get__"))
  tk : takesIn K (.builtin "object.__class__") = some true
  mo : mroIn K D (.type "object") = some true
theorem err_class {Q : Option Value → Shared → Prop} (F : ErrIs K D) (X : K.In s.heap) (I : InstAt s.heap x ox D (some od)) (h : Q (some (.ref D)) { s with toks := s.toks + 1 }) : wpAny (model prog w) A (getAttr? (.ref x) "__class__") Q E s := by
  have isC : (clsIn K D).isSome = true := (any_some F.hd).elim fun cd q => by rw [q.1]; rfl
  have ff : findObj K D (some od) "__class__" = some (.bind (.builtin "getset_descriptor.__get__") (.builtin "object.__class__")) := findObj_data isC F.ac F.sn F.tk
  obtain ⟨hp, g, d, t, os⟩ := s
  have T0 := I.type (M := model prog w)
  have T1 := looks_findIn (M := model prog w) X F.ga
  have T2 := looks_findIn (M := model prog w) X F.gt
  have T3 := looks_find (M := model prog w) X I ff
  have sub : Looks (model prog w) hp (isInstance (.ref x) (.type "BaseException")) true := T0.andThen (looks_subIn X F.sb)
  have n0 : (false && onTheHeap (Value.builtin "BaseException.__getattribute__")) = false := rfl
  have n2 : (Value.builtin "BaseException.__getattribute__" == Value.builtin "object.__getattribute__") = false := by decide +kernel
  have n1 : (onTheHeap (Value.ref D) && Value.builtin "BaseException.__getattribute__" == Value.builtin "object.__getattribute__") = false := by rw [n2] <;> rfl
  unfold getAttr? getAttrBy? getAttrBy
  refine wpAny_bind (wpAny_mkText (wpAny_bind (wpAny_attempt (wpAny_holding (wpAny_bind (T0.at (wpAny_bind (T1.at ?_))))))))
  show wpAny _ _ (if (onTheHeap (Value.ref D) && Value.builtin "BaseException.__getattribute__" == Value.builtin "object.__getattribute__") = true then _ else _) _ _ _
  rw [n1, if_neg (by decide : ¬ (false = true))]; unfold getAttrByItsOwn hookBefore
  refine wpAny_bind ?_; rw [if_pos (show onTheHeap (Value.ref D) = true from rfl)]
  refine T2.at ?_; refine wpAny_bind (wpAny_attempt (wpAny_holding ?_))
  unfold callGetattribute; rw [n0, if_neg (by decide : ¬ (false = true))]
  unfold boundAndCalled; rw [PySem.F.excAttr_ValueError.ga.bind (.ref x)]
  refine wpAny_bind (wpAny_pure ?_); show wpAny _ _ (call (.builtin "BaseException.__getattribute__") [.ref x, .str "__class__" t]) _ _ _
  refine wpAny_call (codeAny_call_builtin PySem.F.excAttr_ValueError.ga.plain PySem.F.entry_bexc_ga ?_)
  refine @check_slot (model prog w) _ _ ⟨hp, g, d, t + 1, os⟩ "BaseException.__getattribute__" "BaseException" "__getattribute__" (.ref x) [.str "__class__" t] [] _ (by decide +kernel) (by decide +kernel) sub (PySem.F.args_bexc_ga _ _) ?_
  unfold Builtin.«object.__getattribute__»
  refine wpAny_bind (wpAny_of_eq (a := ((Value.ref x : Value), [Value.str "__class__" t])) (by first | rfl | (simp only [slotArgs] <;> rfl)) ?_)
  refine wpAny_bind (wpAny_pure (wpAny_bind (T0.at (wpAny_bind (T3.at ?_)))))
  show wpAny _ _ (holding [Value.builtin "object.__class__"] (call (.builtin "getset_descriptor.__get__") [.builtin "object.__class__", .ref x, .ref D]) >>= ret) _ _ _
  refine wpAny_bind (wpAny_holding (wpAny_call (class_get (s := ⟨hp, g, d, t + 1, os⟩) (ox := ox) (od := some od) X I F.mo ?_)))
  refine wpAny_pure ?_; show wpAny _ _ (handedOut (.ref D)) _ _ _
  rw [handedOut_of (v := .ref D) rfl]
  first | exact wpAny_pure (wpAny_pure h) | exact wpAny_pure h | exact wpAny_pure (wpAny_bind (wpAny_pure (wpAny_pure h)))
theorem err_kit (F : ErrIs K D) : KitX K (.ref x) (.ref D) (fun h => ∃ ox od, InstAt h x ox D (some od)) where
  ty := fun _ _ _ ⟨_, _, I⟩ => I.type
  it := fun _ _ X _ => by
    obtain ⟨cdD, hcD, _⟩ := any_some F.hd; unfold clsIn at hcD
    split at hcD
    · rename_i c' d' cd' sl ho
      intro A' Q' E' s' k q; unfold isType loadHead
      exact wpAny_bind (wpAny_loadPart (k _ _ (X _ _ ho)) (wpAny_pure q))
    · cases hcD
  ne := fun h tp dd its n sl X htp => by
    obtain ⟨cdD, hcD, _⟩ := any_some F.hd; refine Bool.eq_false_iff.mpr fun q => ?_
    have e : D = tp := Value.ref.inj (beq_iff_eq.mp q); subst e; unfold clsIn at hcD
    split at hcD
    · rename_i c' d' cd' sl ho
      cases (X _ _ ho).symm.trans htp
    · cases hcD
  ca := fun X ⟨_, _, I⟩ k => err_class F X I k
end
end PySem.ErrX
namespace DL
open PySem L2
open PyProof.Rows hiding St
/-- isinstance(e, c), e the error that the suite holds -/
def rIsErr (K : PySem.W.Frag) (D a dd : Addr) : List V → Hp → VK → Prop := fun xs H Q => ∃ (c : V) (cv : Value) (b : Bool) (fs : List (Str × V)), xs = [.ref a, c] ∧ H dd = some (.xd fs) ∧ ClsV c cv ∧ PySem.W.kitOne K (.ref D) cv = some b ∧ Q (.bl b) H
theorem call_isErr {X : Cx} {a D dd : Addr} {oe : Obj} {pn : List (Addr × Obj)} (F : PySem.ErrX.ErrIs X.K D) (hz : Zc (.ref D) (some dd) oe) (hf : ∃ vs, oe.data = .fields vs) : CallR (X.suite a ((a, oe) :: pn)) (.builtin "isinstance") (rIsErr X.K D a dd) := by
  intro pins s σ H xs us Q I r h
  obtain ⟨c, cv, b, fs, rfl, hx, hcv, e, q⟩ := h
  obtain ⟨u1, u2, rfl, rx, rt⟩ := vals2 r
  cases rx
  cases hcv.eq rt
  obtain ⟨hget, _⟩ := I.pin (a, oe) (List.mem_append.mpr (.inl List.mem_cons_self))
  obtain ⟨vs, hv⟩ := hf
  obtain ⟨mA, hns, _⟩ := (show ObjOk X.prog X.w H s.heap dd (.xd fs) from I.hok dd _ hx)
  obtain ⟨od, ho, _⟩ := lookIn_ns hns
  have J : PySem.W.InstAt s.heap a oe D (some od) := ⟨hget, hz.1, by unfold PySem.W.notCls; rw [hv] <;> rfl, by rw [hz.2]; exact ho⟩
  exact PySem.W.kia_one (PySem.ErrX.err_kit F) I.kIn ⟨_, _, J⟩ e (fun z => nomatch z) fun tk => ⟨.bl b, H, I.kept (t' := tk) fun _ _ z => z, rfl, q⟩
def oIsE (tb : Nat → Option Bool) : D → M D
  | .exn j _ => optM (tb j) >>= fun b => pure (.bl b)
  | _ => mStuck
def eIsE (tb : Nat → Option Bool) (m : LE → M D) : LE → M D := fun env => m env >>= oIsE tb
/-- the name of a class and what it means -/
structure ClsN (X : Cx) (x : Str) (cv : Value) : Prop where
  ev : ∀ {W : WX} {p : Pos}, ∃ c : V, ClsV c cv ∧ PE X (.Name x p) (tC c)
section
variable {X : Cx} {C : Ct} {c0 : Cf} {W : WX}
theorem clsN_own {x : Str} {A : Addr} (hm : X.mg x = some (.ref A)) (hg : Gl X x := by rfl) (hdb : (x == ("__debug__" : Str)) = false := by decide) : ClsN X x (.ref A) := ⟨⟨.ref A, .own A, pe_glob hg hm rfl hdb⟩⟩
theorem clsN_bi {x : Str} {T : String} (hm : X.mg x = none) (hv : bootBuiltins x = some (.type T) := by rfl) (hg : Gl X x := by rfl) (hn : x ≠ "__name__" := by decide) (hdb : (x == ("__debug__" : Str)) = false := by decide) : ClsN X x (.type T) := ⟨⟨.ty T, .ty T, pe_bltn hg hm hv rfl hn hdb⟩⟩
/-- which own errors are of cv -/
structure Tb (K : PySem.W.Frag) (C : Ct) (cv : Value) (tb : Nat → Option Bool) : Prop where
  ex : ∀ j b, tb j = some b → PySem.W.kitOne K (.ref (C.ca j)) cv = some b
theorem se_isE {x : Str} {cv : Value} {a : Addr} {j : Nat} {dx : Addr} {oe : Obj} {pn : List (Addr × Obj)} {e : Expr} {m : LE → M D} {tb : Nat → Option Bool} {p p2 pos : Pos} (hm : X.mg "isinstance" = none) (F : PySem.ErrX.ErrIs X.K (C.ca j)) (T : Tb X.K C cv tb) (N : ClsN (X.suite a ((a, oe) :: pn)) x cv)
    (hz : Zc (.ref (C.ca j)) (some dx) oe) (hf : ∃ vs, oe.data = .fields vs) (h : SE (X.suite a ((a, oe) :: pn)) (C.up (a, C.ca j, dx)) W e m) (hg : Gl X "isinstance" := by rfl)
    (he : starEach (e :: [.Name x p2]) X.env = (false, eval e X.env) :: starEach [.Name x p2] X.env := by rfl) (he2 : starEach (.Name x p2 :: []) X.env = (false, eval (.Name x p2) X.env) :: starEach [] X.env := by rfl)
    (hpl : (backTo pos (starEach [.Name x p2] X.env)).any (·.1) = false := by rfl) : SE (X.suite a ((a, oe) :: pn)) (C.up (a, C.ca j, dx)) W (.Call (.Name "isinstance" p) [e, .Name x p2] [] pos) (eIsE tb m) := by
  obtain ⟨t, pe, se⟩ := h.out
  obtain ⟨c, cc, pn'⟩ := N.ev (W := W) (p := p2)
  refine ⟨_, pe_callB (X := X.suite a ((a, oe) :: pn)) (call_isErr F hz hf) hg hm (by rfl) (pa_cons pe (pa_cons pn' pa_nil he2) he) (by decide) (by decide) he hpl, fun env σ c1 Q hR hF => ?_⟩
  refine se env σ c1 _ hR (Fn.bind hF fun d c2 e1 w1 hF1 v dn => ?_)
  cases d <;> first | exact False.elim hF1 | skip
  rename_i k fs
  simp only [Den] at dn
  obtain ⟨a', dx', gs, rfl, q, g, l⟩ := dn
  simp only [Ct.up, Option.some.injEq, Prod.mk.injEq] at q
  obtain ⟨rfl, q2, rfl⟩ := q
  obtain ⟨b, eb, hF2⟩ := Fn.optM (show Fn (C.up (a, C.ca j, dx)) c2 ((optM (tb k) >>= fun b => pure (.bl b)) c2.s) (KD (C.up (a, C.ca j, dx)) Q) (fun a b H => W a b σ H) from hF1)
  exact ⟨_, cv, b, gs, rfl, w1.ext _ _ g, cc, by rw [q2]; exact T.ex k b eb, Fn.ok w1 hF2 _ rfl⟩
end
end DL
set_option Elab.async false
set_option linter.all false
set_option maxRecDepth 100000
set_option maxHeartbeats 2000000
/-! # More statements; texts; a module's dict -/
namespace DL
open PySem L2
open PyProof.Rows hiding St
section
variable {X : Cx} {C : Ct} {c0 : Cf} {W : WX}
/-! ### a, b = x, y -/
def sPar (i j : Nat) (m : LE → M (List D)) : SM := sE m fun ds env s => match ds with
  | [d, e] => some (.nx ((env.set i (some (.val d))).set j (some (.val e))), s)
  | _ => none
theorem s1_par (i j : Nat) {x y : Str} {a b : Expr} {m : LE → M (List D)} {px py pt pos : Pos} {kt k2 pt2} (h : SA X C W [a, b] m) (hN : X.N.Nodup) (hw : swappedStores [.Tuple [.Name x px, .Name y py] kt pt] (.Tuple [a, b] k2 pt2) X.env = pure (some [x, y])) (hc : X.calm = true := by rfl) (hi : X.N[i]? = some x := by rfl) (hj : X.N[j]? = some y := by rfl) (hij : i ≠ j := by decide)
    (hx : X.env.scope.names.lookup x = some .local := by rfl) (hy : X.env.scope.names.lookup y = some .local := by rfl) (hs : swapsWithSole [.Tuple [.Name x px, .Name y py] kt pt] (.Tuple [a, b] k2 pt2) pos.line X.env = pure false := by rfl) :
    SS1 X C c0 W (.Assign [.Tuple [.Name x px, .Name y py] kt pt] (.Tuple [a, b] k2 pt2) pos) (sPar i j m) := by
  obtain ⟨t, p, s⟩ := h.out
  refine ⟨_, ps_par hc hN hi hj hij hx hy p hw hs, fun env σ c E hR hF => s env σ c _ hR.rl (hF.fn hR fun ds c' x w hR' hF' vs dn => ?_)⟩
  match ds, dn, hF' with
  | [], _, hF => exact False.elim hF
  | [_], _, hF => exact False.elim hF
  | [d, e], dn, hF =>
    obtain ⟨v, u, rfl, h1, h2⟩ := den2 dn
    exact ⟨v, u, rfl, hF _ c' rfl ((hR'.set h1).set h2) (Since.refl _)⟩
  | _ :: _ :: _ :: _, _, hF => exact False.elim hF
/-! ### o[i] = e, o a list in a cell -/
def setIx (o i d : D) (s : S) : Option S := match o, i with
  | .loc n, .int k => (match s[n]? with
    | some (some (.lst ds)) => (ixN ds.length k).map fun j => s.set n (some (.lst (ds.set j d)))
    | _ => none)
  | _, _ => none
def sSetIx (mo mi me : LE → M D) : SM := sE me fun d => sE mo fun o => sE mi fun i env s => (setIx o i d s).map fun s' => (.nx env, s')
theorem s1_setix {o i e : Expr} {mo mi me : LE → M D} {pt pos : Pos} (ho : SE X C W o mo) (hi : SE X C W i mi) (he : SE X C W e me)
    (ha : ∀ v, assign (.Subscript o i pt) X.env v = (do
      let ov ← holding [v] (eval o X.env)
      let iv ← holding [v, ov] (eval i X.env)
      standAt pt
      holding [v, ov, iv] (setItem ov iv v)
      release [v, ov, iv] []) := by intro _; rfl)
    (hs : swapsWithSole [.Subscript o i pt] e pos.line X.env = pure false := by rfl) (hw : swappedStores [.Subscript o i pt] e X.env = pure none := by rfl)
    (h1 : (assignEach [.Subscript o i pt] X.env).map (·.2) = [assign (.Subscript o i pt) X.env] := by rfl) :
    SS1 X C c0 W (.Assign [.Subscript o i pt] e pos) (sSetIx mo mi me) := by
  obtain ⟨to, po, so⟩ := ho.out
  obtain ⟨ti, pi, si⟩ := hi.out
  obtain ⟨te, pe, se⟩ := he.out
  refine ⟨_, ps_asg pe (pg_sub po pi set_list ha) hs hw h1, fun env σ c E hR hF => ?_⟩
  refine se env σ c _ hR.rl (hF.fn hR fun d c1 x1 w1 hR1 hF1 v dn => ?_)
  refine so env σ c1 _ hR1.rl (hF1.fn hR1 fun od c2 x2 w2 hR2 hF2 ov don => ?_)
  refine si env σ c2 _ hR2.rl (hF2.fn hR2 fun id c3 x3 w3 hR3 hF3 iv din => ?_)
  cases od <;> first | exact False.elim hF3 | skip
  rename_i n
  cases id <;> first | exact False.elim hF3 | skip
  rename_i k
  cases (show iv = _ from din)
  have h3 : FS C c0 c3 W E ((match c3.s[n]? with
    | some (some (.lst ds)) => (ixN ds.length k).map fun j => c3.s.set n (some (.lst (ds.set j d)))
    | _ => none).map fun s' => (.nx env, s')) := hF3
  have don3 := don.mono x3.g x3.pre
  obtain ⟨a, rfl, ha3⟩ := don3
  cases q : c3.s[n]? with
  | none => rw [q] at h3; exact False.elim h3
  | some oo =>
    cases oo with
    | none => rw [q] at h3; exact False.elim h3
    | some oo =>
      rw [q] at h3
      cases oo with
      | dct _ => exact False.elim h3
      | ins _ _ => exact False.elim h3
      | lst ds =>
        obtain ⟨a', hob, r1, r2, r3, vs, rfl, l⟩ := w3.cel n _ q
        rw [ha3] at r1
        cases r1
        cases ej : ixN ds.length k with
        | none => simp only [ej] at h3; exact False.elim h3
        | some j =>
          simp only [ej] at h3
          have dn3 := (dn.mono x2.g x2.pre).mono x3.g x3.pre
          obtain ⟨w4, e4⟩ := w3.cell (o' := .lst (ds.set j d)) (ho' := .lst (vs.set j v)) q ha3 ⟨_, rfl, DenL.set dn3 j l⟩
          exact ⟨a, vs, k, j, rfl, rfl, r3, by rw [l.length]; exact ej, h3 σ ⟨_, _, _, _⟩ rfl (hR3.step e4 w4) e4.since⟩
/-! ### l.clear(), l a list in a cell -/
def clearM : D → M D
  | .loc n => fun s => match s[n]? with
    | some (some (.lst _)) => .ok .non (s.set n (some (.lst [])))
    | _ => .stuck
  | _ => mStuck
def eClear (m : LE → M D) : LE → M D := fun env => m env >>= clearM
theorem se_clear {o : Expr} {m : LE → M D} {apos cpos : Pos} (h : SE X C W o m) (hbase : attributeBase o "clear" X.env (eval o X.env) = eval o X.env := by rfl) (hline : (apos.endLine == cpos.line) = true := by rfl) : SE X C W (.Call (.Attribute o "clear" apos) [] [] cpos) (eClear m) := by
  obtain ⟨t, p, s⟩ := h.out
  refine ⟨_, pe_bm0 PySem.F.plainAttrs_list PySem.F.slot_list_clear PySem.F.type_list_clear mt_clear p hbase hline, fun env σ c Q hR hF => ?_⟩
  refine s env σ c _ hR (Fn.bind hF fun d c1 e1 w1 hF1 v dn => ?_)
  cases d <;> first | exact False.elim hF1 | skip
  rename_i n
  obtain ⟨a, rfl, ha⟩ := dn
  have h' : Fn C c1 (match c1.s[n]? with
    | some (some (.lst _)) => R.ok D.non (c1.s.set n (some (.lst [])))
    | _ => .stuck) (KD C Q) (fun a b H => W a b σ H) := hF1
  cases q : c1.s[n]? with
  | none => rw [q] at h'; exact False.elim h'
  | some oo =>
    cases oo with
    | none => rw [q] at h'; exact False.elim h'
    | some oo =>
      rw [q] at h'
      cases oo with
      | dct _ => exact False.elim h'
      | ins _ _ => exact False.elim h'
      | lst ds =>
        obtain ⟨a', hob, r1, r2, r3, vs, rfl, l⟩ := w1.cel n _ q
        rw [ha] at r1
        cases r1
        obtain ⟨w4, e4⟩ := w1.cell (o' := .lst []) (ho' := .lst []) q ha ⟨_, rfl, .nil⟩
        exact ⟨.inl ⟨rfl, _, SqL.of r3⟩, a, vs, rfl, rfl, r3, h' ⟨_, _, _, _⟩ rfl e4 w4 _ rfl⟩
/-! ### an owned container becomes a cell (nothing happens) -/
def toLoc (i : Nat) (env : LE) (s : S) : LE × S := match env[i]? with
  | some (some (.own o)) => (env.set i (some (.val (.loc s.length))), s ++ [some o])
  | _ => (env, s)
theorem RlS.toLoc {env : LE} {σ : L2.St} {c : Cf} (i : Nat) (h : RlS C c0 env σ c) : ∃ ρ, RlS C c0 (toLoc i env c.s).1 σ ⟨c.H, c.G, ρ, (toLoc i env c.s).2⟩ ∧ Pre c.ρ ρ := by
  have same : ∃ ρ, RlS C c0 env σ ⟨c.H, c.G, ρ, c.s⟩ ∧ Pre c.ρ ρ := ⟨c.ρ, h, Pre.refl _⟩
  unfold DL.toLoc
  cases he : env[i]? with
  | none => exact same
  | some x =>
    cases x with
    | none => exact same
    | some sd =>
      cases sd with
      | val d => exact same
      | own o =>
        obtain ⟨a, ho, b1, b2, b3, b4, b5⟩ := h.rl.own i o he
        have w := h.rl.wf
        have hp : Pre c.ρ (c.ρ ++ [a]) := ⟨[a], rfl⟩
        have hat : (c.ρ ++ [a])[c.s.length]? = some a := by rw [← w.len]; simp
        have w2 : WF C ⟨c.H, c.G, c.ρ ++ [a], c.s ++ [some o]⟩ := by
          refine ⟨w.ext, by simp [w.len], ?_, fun x hx => ?_, fun m u q => ?_⟩
          · rw [List.nodup_append]
            refine ⟨w.nd, by simp, fun x hx y hy => ?_⟩
            have e : y = a := by simpa using hy
            subst e
            exact fun z => b3 (z ▸ hx)
          · rcases List.mem_append.mp hx with hx | hx
            · exact w.dom x hx
            · have e : x = a := by simpa using hx
              subst e
              show c.H x ≠ none
              rw [b4]; simp
          · by_cases hm : m < c.s.length
            · rw [List.getElem?_append_left hm] at q
              obtain ⟨x, hx, q1, q2, q3, q4⟩ := w.cel m u q
              exact ⟨x, hx, hp.get q1, q2, q3, q4.mono (Gr.refl _) hp⟩
            · have hml : m = c.s.length := by
                have := (List.getElem?_eq_some_iff.mp q).1
                simp at this
                omega
              subst hml
              simp at q
              subst q
              exact ⟨a, ho, hat, b2, b4, b5.mono (Gr.refl _) hp⟩
        refine ⟨c.ρ ++ [a], ⟨⟨w2, by simp [h.rl.len], fun j x q => ?_, fun j u q => ?_, fun j k u u' x q1 q2 q3 q4 => ?_⟩, ⟨h.ext.g, h.ext.fr, h.ext.kp, h.ext.dom, ?_⟩, fun j u x q1 q2 => ?_⟩, hp⟩
        · rcases get_set q with ⟨rfl, e', _⟩ | ⟨hj, q⟩
          · cases e'
            exact ⟨_, b1, a, rfl, hat⟩
          · obtain ⟨v, r1, r2⟩ := h.rl.val j x q
            exact ⟨v, r1, r2.mono (Gr.refl _) hp⟩
        · rcases get_set q with ⟨rfl, e', _⟩ | ⟨hj, q⟩
          · cases e'
          · obtain ⟨x, hx, r1, r2, r3, r4, r5⟩ := h.rl.own j u q
            refine ⟨x, hx, r1, r2, ?_, r4, r5.mono (Gr.refl _) hp⟩
            intro hm
            rcases List.mem_append.mp hm with hm | hm
            · exact r3 hm
            · have e : x = a := by simpa using hm
              subst e
              exact hj (h.rl.apart j i u o x q he r1 b1)
        · rcases get_set q1 with ⟨_, e', _⟩ | ⟨_, q1⟩
          · cases e'
          · rcases get_set q2 with ⟨_, e', _⟩ | ⟨_, q2⟩
            · cases e'
            · exact h.rl.apart j k u u' x q1 q2 q3 q4
        · obtain ⟨more, q, f⟩ := h.ext.pr
          refine ⟨more ++ [a], by show c.ρ ++ [a] = _; rw [q, List.append_assoc], fun x hx => ?_⟩
          rcases List.mem_append.mp hx with hx | hx
          · exact f x hx
          · have e : x = a := by simpa using hx
            subst e
            exact h.mine i o x he b1
        · rcases get_set q1 with ⟨_, e', _⟩ | ⟨_, q1⟩
          · cases e'
          · exact h.mine j u x q1 q2
def sLoc (i : Nat) (m : SM) : SM := fun env s => m (toLoc i env s).1 (toLoc i env s).2
theorem s1_loc (i : Nat) {st : Stmt} {m : SM} (h : SS1 X C c0 W st m) : SS1 X C c0 W st (sLoc i m) := by
  obtain ⟨t, p, s⟩ := h.out
  refine ⟨t, p, fun env σ c E hR hF => ?_⟩
  obtain ⟨ρ, h2, g2⟩ := hR.toLoc i
  exact s _ σ ⟨c.H, c.G, ρ, (toLoc i env c.s).2⟩ E h2 (FS.mono (b := c) (b' := ⟨c.H, c.G, ρ, (toLoc i env c.s).2⟩) ⟨Gr.refl _, g2⟩ hF)
/-! ### split, join -/
def strM : D → M Str
  | .str a => pure a
  | _ => mStuck
theorem Fn.strM {c : Cf} {d : D} {v : V} {β : Type} {f : Str → M β} {K : β → Cf → Prop} {E : XK} (dn : Den C c.G c.ρ d v) (h : Fn C c ((strM d >>= f) c.s) K E) : ∃ a, v = .str a ∧ Fn C c (f a c.s) K E := by
  cases d <;> first | exact False.elim h | skip
  cases (show v = _ from dn)
  exact ⟨_, rfl, h⟩
def nSplit (mo me : LE → M D) : LE → M O := fun env => mo env >>= fun x => strM x >>= fun a => me env >>= fun y => strM y >>= fun b => guardM (!(b.length == 0) && decide (a.length ≤ 1000000)) >>= fun _ => pure (.lst ((Txt.split a b).map .str))
theorem sn_split {o e : Expr} {mo me : LE → M D} {apos pos : Pos} (ho : SE X C W o mo) (he : SE X C W e me) (hs : starEach [e] X.env = [(false, eval e X.env)] := by rfl) (hbase : attributeBase o "split" X.env (eval o X.env) = eval o X.env := by rfl) (hline : (apos.endLine == pos.line) = true := by rfl) :
    SN X C W (.Call (.Attribute o "split" apos) [e] [] pos) (nSplit mo me) := by
  obtain ⟨to, po, so⟩ := ho.out
  obtain ⟨te, pe, se⟩ := he.out
  refine ⟨_, pe_split po pe hs hbase hline, fun env σ c Q hR hF => ?_⟩
  refine so env σ c _ hR (Fn.bind hF fun d c1 e1 w1 hF1 v dn => ?_)
  obtain ⟨a, rfl, hF1⟩ := Fn.strM dn hF1
  refine ⟨⟨a, rfl⟩, se env σ c1 _ (hR.ext e1 w1) (Fn.bind hF1 fun d2 c2 e2 w2 hF2 u dn2 => ?_)⟩
  obtain ⟨b, rfl, hF2⟩ := Fn.strM dn2 hF2
  obtain ⟨hz, hF3⟩ := Fn.guard hF2
  rw [Bool.and_eq_true] at hz
  refine ⟨a, b, rfl, rfl, by simpa using hz.1, Nat.le_trans (Nat.add_le_add_right (of_decide_eq_true hz.2) 2) (by decide), fun p hp => ?_⟩
  obtain ⟨w3, e3⟩ := lay_new (o := .lst ((Txt.split a b).map V.str)) w2 hp
  exact Fn.ok w3 (Fn.mono e3 hF3) p (.of (e1.trans e2) w2 hp ⟨_, rfl, denStrs _⟩)
def eJoin (mo me : LE → M D) : LE → M D := fun env => mo env >>= fun x => strM x >>= fun a => me env >>= fun y => rdS y >>= fun ds => optM (strsOf ds) >>= fun ys => guardM (decide ((ys.map (·.length)).sum + ys.length * a.length ≤ 16777216)) >>= fun _ => pure (.str (Txt.join a ys))
theorem se_join {o e : Expr} {mo me : LE → M D} {apos pos : Pos} (ho : SE X C W o mo) (he : SE X C W e me) (hK : X.K = C.K := by rfl) (hs : starEach [e] X.env = [(false, eval e X.env)] := by rfl) (hbase : attributeBase o "join" X.env (eval o X.env) = eval o X.env := by rfl) (hline : (apos.endLine == pos.line) = true := by rfl) :
    SE X C W (.Call (.Attribute o "join" apos) [e] [] pos) (eJoin mo me) := by
  obtain ⟨to, po, so⟩ := ho.out
  obtain ⟨te, pe, se⟩ := he.out
  refine ⟨_, pe_join po pe hs hbase hline, fun env σ c Q hR hF => ?_⟩
  refine so env σ c _ hR (Fn.bind hF fun d c1 e1 w1 hF1 v dn => ?_)
  obtain ⟨a, rfl, hF1⟩ := Fn.strM dn hF1
  refine ⟨⟨a, rfl⟩, se env σ c1 _ (hR.ext e1 w1) (Fn.bind hF1 fun d2 c2 e2 w2 hF2 u dn2 => ?_)⟩
  obtain ⟨p, vs, ds, rfl, hq, l, hF3⟩ := rdS_sim w2 dn2 hF2
  obtain ⟨ys, ey, hF4⟩ := Fn.optM hF3
  obtain ⟨hz, hF5⟩ := Fn.guard hF4
  cases strsOf_den ey l
  rw [hK]
  exact ⟨a, p, ys, rfl, rfl, hq, of_decide_eq_true hz, Fn.ok w2 hF5 _ rfl⟩
/-! ### {} -/
def nDct0 : LE → M O := fun _ => pure (.dct [])
theorem sn_dct0 {pos : Pos} : SN X C W (.Dict [] [] pos) nDct0 := by
  refine ⟨_, pe_dnewK, fun env σ c Q hR hF p hp => ?_⟩
  obtain ⟨w2, e2⟩ := lay_new (o := .dK []) hR.wf hp
  exact Fn.ok w2 (Fn.mono e2 hF) p (.of (Ext.refl c) hR.wf hp ⟨[], rfl, by simp only [DenK]⟩)
/-! ### a dict of the module, with text keys -/
inductive Ent (C : Ct) : List DictEntry → List (Str × D) → Prop where
  | nil : Ent C [] []
  | cons {e : DictEntry} {x : Str} {t : Tok} {d : D} {v : V} {es : List DictEntry} {tb : List (Str × D)} : e.key = .str x t → RelV v e.val → (∀ G ρ, Den C G ρ d v) → Ent C es tb → Ent C (e :: es) ((x, d) :: tb)
structure KdAt (K : PySem.W.Frag) (w : World) (C : Ct) (a : Addr) (tb : List (Str × D)) : Prop where
  at' : ∃ es n, KDict K w a es n ∧ Ent C es.toList tb
theorem Ent.nsIn {z : Str} : ∀ {es : List DictEntry} {tb : List (Str × D)}, Ent C es tb →
    (match es.find? (·.key.isStr z) with | some e => some (some e.val) | none => if es.any (·.refKey) then none else some none) = (match es.find? (·.key.isStr z) with | some e => some (some e.val) | none => some none) ∧
    (∀ d, lookF z tb = some d → ∃ e v, es.find? (·.key.isStr z) = some e ∧ RelV v e.val ∧ ∀ G ρ, Den C G ρ d v) ∧ (lookF z tb = none → es.find? (·.key.isStr z) = none)
  | _, _, .nil => ⟨rfl, fun d h => (nomatch h), fun _ => rfl⟩
  | e :: es, (x, d) :: tb, .cons hk hr hd rest => by
    obtain ⟨i1, i2, i3⟩ := Ent.nsIn (z := z) rest
    have hs : e.key.isStr z = (x == z) := by rw [hk] <;> rfl
    have hnr : e.refKey = false := by unfold DictEntry.refKey; rw [hk] <;> rfl
    by_cases q : z = x
    · subst q
      have h1 : e.key.isStr z = true := by rw [hs]; simp
      refine ⟨?_, fun d' h => ?_, fun h => ?_⟩
      · simp only [List.find?_cons, h1]
      · unfold lookF at h
        rw [if_pos rfl] at h
        cases h
        exact ⟨e, _, by simp only [List.find?_cons, h1], hr, hd⟩
      · unfold lookF at h
        rw [if_pos rfl] at h
        cases h
    · have h1 : e.key.isStr z = false := by rw [hs]; simpa using fun w => q w.symm
      refine ⟨?_, fun d' h => ?_, fun h => ?_⟩
      · simp only [List.find?_cons, h1, List.any_cons, hnr, Bool.false_or]
        exact i1
      · unfold lookF at h
        rw [if_neg q] at h
        simp only [List.find?_cons, h1]
        exact i2 d' h
      · unfold lookF at h
        rw [if_neg q] at h
        simp only [List.find?_cons, h1]
        exact i3 h
theorem KdAt.look {K : PySem.W.Frag} {w : World} {a : Addr} {tb : List (Str × D)} {es : Array DictEntry} {n : Nat} (D0 : KDict K w a es n) (E : Ent C es.toList tb) (z : Str) :
    (∀ d, lookF z tb = some d → ∃ u v, PySem.W.nsIn K a z = some (some u) ∧ RelV v u ∧ ∀ G ρ, Den C G ρ d v) ∧ (lookF z tb = none → PySem.W.nsIn K a z = some none) := by
  obtain ⟨i1, i2, i3⟩ := E.nsIn (z := z)
  have e0 : PySem.W.nsIn K a z = (match es.toList.find? (·.key.isStr z) with | some e => some (some e.val) | none => some none) := by
    unfold PySem.W.nsIn
    rw [D0.at_]
    exact i1
  refine ⟨fun d h => ?_, fun h => ?_⟩
  · obtain ⟨e, v, f, r, k⟩ := i2 d h
    exact ⟨e.val, v, by rw [e0, f], r, k⟩
  · rw [e0, i3 h]
def oKdIn (tb : List (Str × D)) (neg : Bool) : D → M D
  | .str z => pure (.bl (if neg then !(lookF z tb).isSome else (lookF z tb).isSome))
  | _ => mStuck
def oKdGet (tb : List (Str × D)) : D → M D
  | .str z => optM (lookF z tb)
  | _ => mStuck
def eKdIn (tb : List (Str × D)) (neg : Bool) (m : LE → M D) : LE → M D := fun env => m env >>= oKdIn tb neg
def eKdGet (tb : List (Str × D)) (m : LE → M D) : LE → M D := fun env => m env >>= oKdGet tb
theorem se_kdGet {x : Str} {a : Addr} {tb : List (Str × D)} {e : Expr} {m : LE → M D} {p pos : Pos} (hm : X.mg x = some (.ref a)) (T : KdAt X.K X.w C a tb) (h : SE X C W e m) (hg : Gl X x := by rfl) (hs : PlainIx e := by exact fun _ _ => rfl) (hdb : (x == ("__debug__" : Str)) = false := by decide) :
    SE X C W (.Subscript (.Name x p) e pos) (eKdGet tb m) := by
  obtain ⟨t, pe, se⟩ := h.out
  obtain ⟨es, n, D0, E0⟩ := T.at'
  refine ⟨_, pe_ix ix_kdict (pe_glob (v := .ref a) hg hm rfl hdb) pe hs, fun env σ c Q hR hF => ?_⟩
  refine se env σ c _ hR (Fn.bind hF fun d c1 e1 w1 hF1 v dn => ?_)
  cases d <;> first | exact False.elim hF1 | skip
  rename_i z
  cases (show v = _ from dn)
  obtain ⟨d, ed, k⟩ := Fn.opt w1 (show Fn C c1 ((optM (lookF z tb) : M D) c1.s) (KD C Q) (fun a b H => W a b σ H) from hF1)
  obtain ⟨u, v, e2, r, dd⟩ := (KdAt.look D0 E0 z).1 d ed
  exact ⟨a, z, v, rfl, rfl, ⟨es, n, u, D0.at_, D0.lit, e2, r⟩, k v (dd _ _)⟩
theorem kd_in {a : Addr} {tb : List (Str × D)} {es : Array DictEntry} {n : Nat} (D0 : KDict X.K X.w a es n) (E0 : Ent C es.toList tb) {t : TE} {m : LE → M D} (s : SimE C W t m) : SimE C W (tOp (fun x y H Q => ∃ (z : Str) (r : Option Value), x = .str z ∧ y = .ref a ∧ PySem.W.nsIn X.K a z = some r ∧ Q (.bl r.isSome) H) t (tC (.ref a))) (eKdIn tb false m) := by
  intro env σ c Q hR hF
  refine s env σ c _ hR (Fn.bind hF fun d c1 e1 w1 hF1 v dn => ?_)
  cases d <;> first | exact False.elim hF1 | skip
  rename_i z
  cases (show v = _ from dn)
  have k := Fn.ok w1 hF1
  obtain ⟨l1, l2⟩ := KdAt.look D0 E0 z
  cases ed : lookF z tb with
  | some d =>
    obtain ⟨u, v, e2, r, dd⟩ := l1 d ed
    rw [ed] at k
    exact ⟨z, _, rfl, rfl, e2, k _ rfl⟩
  | none =>
    rw [ed] at k
    exact ⟨z, _, rfl, rfl, l2 ed, k _ rfl⟩
theorem kd_notIn {a : Addr} {tb : List (Str × D)} {es : Array DictEntry} {n : Nat} (D0 : KDict X.K X.w a es n) (E0 : Ent C es.toList tb) {t : TE} {m : LE → M D} (s : SimE C W t m) : SimE C W (tOp (fun x y H Q => ∃ (z : Str) (r : Option Value), x = .str z ∧ y = .ref a ∧ PySem.W.nsIn X.K a z = some r ∧ Q (.bl (!r.isSome)) H) t (tC (.ref a))) (eKdIn tb true m) := by
  intro env σ c Q hR hF
  refine s env σ c _ hR (Fn.bind hF fun d c1 e1 w1 hF1 v dn => ?_)
  cases d <;> first | exact False.elim hF1 | skip
  rename_i z
  cases (show v = _ from dn)
  have k := Fn.ok w1 hF1
  obtain ⟨l1, l2⟩ := KdAt.look D0 E0 z
  cases ed : lookF z tb with
  | some d =>
    obtain ⟨u, v, e2, r, dd⟩ := l1 d ed
    rw [ed] at k
    exact ⟨z, _, rfl, rfl, e2, k _ rfl⟩
  | none =>
    rw [ed] at k
    exact ⟨z, _, rfl, rfl, l2 ed, k _ rfl⟩
theorem st_kdIn {x : Str} {a : Addr} {tb : List (Str × D)} {e : Expr} {m : LE → M D} {p pos : Pos} (hm : X.mg x = some (.ref a)) (T : KdAt X.K X.w C a tb) (h : SE X C W e m) (hg : Gl X x := by rfl) (hdb : (x == ("__debug__" : Str)) = false := by decide) (hmk : behindInMarks .In (.Name x p) = false := by first | exact nomark _ | rfl) :
    STe X C W (.Compare e [.In] [.Name x p] pos) (tOf (eKdIn tb false m)) := by
  obtain ⟨t, pe, se⟩ := h.out
  obtain ⟨es, n, D0, E0⟩ := T.at'
  exact ⟨_, pt_cmpR (op_in_kd D0) pe (pe_glob (v := .ref a) hg hm rfl hdb) hmk, sim_tTest (kd_in D0 E0 se)⟩
theorem st_kdNotIn {x : Str} {a : Addr} {tb : List (Str × D)} {e : Expr} {m : LE → M D} {p pos : Pos} (hm : X.mg x = some (.ref a)) (T : KdAt X.K X.w C a tb) (h : SE X C W e m) (hg : Gl X x := by rfl) (hdb : (x == ("__debug__" : Str)) = false := by decide) (hmk : behindInMarks .NotIn (.Name x p) = false := by first | exact nomark _ | rfl) :
    STe X C W (.Compare e [.NotIn] [.Name x p] pos) (tOf (eKdIn tb true m)) := by
  obtain ⟨t, pe, se⟩ := h.out
  obtain ⟨es, n, D0, E0⟩ := T.at'
  exact ⟨_, pt_cmpR (op_notIn_kd D0) pe (pe_glob (v := .ref a) hg hm rfl hdb) hmk, sim_tTest (kd_notIn D0 E0 se)⟩
end
end DL
set_option Elab.async false
set_option linter.all false
set_option maxRecDepth 100000
set_option maxHeartbeats 2000000
/-! # The end: a law by its mirror -/
namespace DL
open PySem L2
open PyProof.Rows hiding St
/-- the mirror says True, whatever stands in the store -/
def LawM (n : Nat) (m : List D → M D) : Prop := ∀ ns : List Int, ns.length ≤ n → ∃ s', m [.scr ns] [] = .ok (.bl true) s'
theorem law_callG {P : Program} {w : World} {C : Ct} {mg mb : Str → Option Value} {k : Nat} {fa a : Addr} {fd : FuncData} {x : Str} {m : List D → M D} {s₁ : Shared} {vs : List Value} {ns : List Int}
    (KX : C.K.In s₁.heap) (hns : s₁.heap.Ns mainGlobals mg) (hb : s₁.heap.Ns builtinsNs mb) (hbb : ∀ x : Str, x ≠ "__name__" → mb x = bootBuiltins x) (hlim : s₁.heap.NoLimit) (hg : s₁.gens = #[])
    (ha : s₁.heap.get? a = some { cls := .type "list", data := .seq vs.toArray }) (hi : IntsAre vs ns) (hl : ns.length ≤ sizeLine) (hr : RoomG k callerA)
    (F : ∀ base : Heap, C.K.In base → base.Ns mainGlobals mg → FnG P w C mg base k fa fd [x] m) (hbind : ∀ (s : Shared) (u : Value), BindsTo s fd ⟨[u], []⟩ [(x, u)])
    (hm : ∃ s', m [.scr ns] [] = .ok (.bl true) s') :
    codeAny (model P w) callerA (.call (.ref fa) ⟨[.ref a], []⟩) (fun r s' => r = .ok (.ret (.bool true)) ∧ OldK s₁.heap s'.heap ∧ s'.os = s₁.os ∧ AllBare s'.gens) s₁ := by
  have rv := vals_ints hi
  have lenV := hi.length
  obtain ⟨sE, hmE⟩ := hm
  have core : ∀ H : Hp, Only H → SqL C.K H a (ns.map V.int) → HOk P w H s₁.heap → (∀ b, H b ≠ none → b = a) → (H a ≠ none → C.K.lookup a = none) →
      codeAny (model P w) callerA (.call (.ref fa) ⟨[.ref a], []⟩) (fun r s' => r = .ok (.ret (.bool true)) ∧ OldK s₁.heap s'.heap ∧ s'.os = s₁.os ∧ AllBare s'.gens) s₁ := by
    intro H hO hS hok hA hK
    have away : ∀ {b : Addr}, b ≠ a → H b = none := fun {b} ne => by
      cases q : H b with
      | none => rfl
      | some u => exact absurd (hA b (by rw [q]; simp)) ne
    have noA : ∀ {b : Addr} {o : Obj} {es : Array DictEntry} {ep : Nat}, s₁.heap.get? b = some o → o.data = .dict es ep → H b = none := fun {b o es ep} e d => away fun z => by
      subst z
      rw [ha] at e
      cases e
      exact nomatch (show Data.seq vs.toArray _ = Data.dict es ep from d)
    have nsK : ∀ {b : Addr} {m : Str → Option Value}, s₁.heap.Ns b m → (hidT s₁.heap H).Ns b m := fun {b m} ⟨o, es, ep, e, d, r⟩ => ⟨o, es, ep, hidT_get e (noA e d), d, r⟩
    have hKb : C.K.In (hidT s₁.heap H) := fun b o e => hidT_get (KX b o e) (by
      cases q : H b with
      | none => rfl
      | some u =>
        cases hA b (by rw [q]; simp)
        rw [hK (by rw [q]; simp)] at e
        cases e)
    have hM : Mod C.K mg (hidT s₁.heap H) := ⟨hKb, nsK hns, ⟨mb, nsK hb, hbb⟩, hlim.elim fun mc h => ⟨mc, nsK h.1, h.2⟩⟩
    have none0 : ∀ {b : Addr} {R : Prop}, b ∈ ([] : List Addr) → R := fun z => absurd z (by simp)
    have e0 : Env0 P w C.K mg (hidT s₁.heap H) callerA [] s₁ H := ⟨rfl, hM, fun b o e => of_hidT e, Nat.le_of_eq (hidT_size _ _), trivial, fun b hb => none0 (show b ∈ ([] : List Addr) from hb), hok, .of_eq hg⟩
    have w0 : WF C ⟨H, H, [], []⟩ := ⟨Gr.refl _, rfl, List.nodup_nil, fun b z => none0 z, fun n o z => by simp at z⟩
    have dn : DenL C H [] [.scr ns] [V.ref a] := .one ⟨a, rfl, hS⟩
    refine codeAny_mono ((F _ hKb (nsK hns)).run callerA [] s₁ ⟨H, H, [], []⟩ ⟨[.ref a], []⟩ [.ref a] [.ref a] [.scr ns] (fun v _ => v = .bl true) (fun _ _ _ => False) hr e0 (hbind s₁ (.ref a)) (.cons rfl .nil) w0 dn rfl
      (by rw [hmE]; exact fun c' _ _ _ v dv => dv)) fun r s' h => ?_
    cases r with
    | error e =>
      obtain ⟨_, _, _, _, _, _, _, _, _, _, _, _, z⟩ := h
      exact False.elim z
    | ok fl =>
      cases fl <;> first | exact False.elim h | skip
      rename_i u
      obtain ⟨v, H', os, bare, un, hok', r', q⟩ := h
      cases (show v = V.bl true from q)
      cases (show u = Value.bool true from r')
      refine ⟨rfl, OldK.of_keep fun b o e => ?_, os, bare⟩
      cases q : H b with
      | none => exact un.keep b o e q (fun z => none0 (show b ∈ ([] : List Addr) from z)) (by simp)
      | some u =>
        rcases hO b with z | ⟨ob, xs, z⟩
        · rw [q] at z; cases z
        · obtain ⟨e1, _⟩ := hok b _ z
          obtain ⟨e2, _⟩ := hok' b _ (un.frzs b ob _ z)
          rw [e] at e1; cases e1
          exact e2
  cases hk : C.K.lookup a with
  | some o =>
    have e := KX a o hk
    rw [ha] at e
    cases e
    exact core (fun _ => none) (fun _ => .inl rfl) (.inr ⟨_, vs.toArray, _, hk, rfl, rfl, rfl, by rw [List.size_toArray, lenV]; exact hl, by simpa using rv⟩) (fun b u z => nomatch (show (none : Option HO) = some u from z)) (fun b z => absurd rfl z) fun z => absurd rfl z
  | none =>
    refine core (fun b => if b = a then some (.frz { cls := .type "list", data := .seq vs.toArray } (.lst (ns.map V.int))) else none) (fun b => ?_) (.inl (.inr ⟨{ cls := .type "list", data := .seq vs.toArray }, if_pos rfl⟩)) (fun b u z => ?_) (fun b z => Decidable.byContradiction fun hb => z (if_neg hb)) fun _ => hk
    · by_cases hb : b = a
      · exact .inr ⟨_, _, if_pos hb⟩
      · exact .inl (if_neg hb)
    · by_cases hb : b = a
      · cases (if_pos hb).symm.trans z
        subst hb
        exact ⟨ha, by rw [List.length_map]; exact hl, vs, _, rv, ha⟩
      · cases (if_neg hb).symm.trans z
theorem walk_G {l : PySem.W.OpenLaw} {n k : Nat} {q : Program} {loose : List Str} {XP : (Str → Option Value) → Heap → Prop} {YP : World → Heap → Prop} {d : DefRec} {K : Params → PySem.W.Frag} {x : Str} {m : List D → M D}
    (hn : l.most = some n) (hn2 : n ≤ sizeLine) (hdf : d.params.defaults = []) (hr : RoomG k callerA)
    (hY : ∀ (w : World) (h : Heap), YP w h → (K w.params).In h)
    (F : ∀ (w : World) (mg : Str → Option Value) (fa : Addr) (h : Heap), (K w.params).In h → h.Ns mainGlobals mg → mg d.name = some (.ref fa) →
      ∃ (fd : FuncData) (C : Ct), C.K = K w.params ∧ (∀ (s : Shared) (u : Value), BindsTo s fd ⟨[u], []⟩ [(x, u)]) ∧ ∀ base : Heap, (K w.params).In base → base.Ns mainGlobals mg → FnG l.prog w C mg base k fa fd [x] m)
    (hm : LawM n m) :
    PySem.W.WalkO q loose XP YP l.row.toRowW d [] (fun f vs => PySem.call f vs) := by
  refine Att.attach_call hn hdf fun w s₀ s₁ mg mb fa o pm cd doc a vs ns G Y ho hd hcd hmg hobj hints hlen hg => ?_
  have KX := hY w _ Y
  obtain ⟨fd, C, hC, hb, hF⟩ := F w mg fa _ KX G.T.g hmg
  rw [← hC] at KX hF
  exact law_callG KX G.T.g G.T.b G.T.builtins G.T.nolimit hg hobj hints (Nat.le_trans hlen hn2) hr hF hb (hm ns hlen)
end DL
set_option Elab.async false
set_option linter.all false
set_option maxRecDepth 100000
set_option maxHeartbeats 2000000
/-! # What the printed derivations say in one word -/
namespace DL
open PySem L2
open PyProof.Rows hiding St
theorem bb_len : bootBuiltins (Str.ofString "len") = some (.builtin "len") := by kernel_rfl
theorem bb_max : bootBuiltins (Str.ofString "max") = some (.builtin "max") := by kernel_rfl
theorem bb_min : bootBuiltins (Str.ofString "min") = some (.builtin "min") := by kernel_rfl
theorem bb_all : bootBuiltins (Str.ofString "all") = some (.builtin "all") := by kernel_rfl
theorem bb_any : bootBuiltins (Str.ofString "any") = some (.builtin "any") := by kernel_rfl
theorem bb_sorted : bootBuiltins (Str.ofString "sorted") = some (.builtin "sorted") := by kernel_rfl
theorem bb_repr : bootBuiltins (Str.ofString "repr") = some (.builtin "repr") := by kernel_rfl
theorem bb_int : bootBuiltins (Str.ofString "int") = some (.type "int") := by kernel_rfl
theorem bb_str : bootBuiltins (Str.ofString "str") = some (.type "str") := by kernel_rfl
theorem bb_tuple : bootBuiltins (Str.ofString "tuple") = some (.type "tuple") := by kernel_rfl
theorem bb_list : bootBuiltins (Str.ofString "list") = some (.type "list") := by kernel_rfl
theorem bb_bool : bootBuiltins (Str.ofString "bool") = some (.type "bool") := by kernel_rfl
theorem bb_dict : bootBuiltins (Str.ofString "dict") = some (.type "dict") := by kernel_rfl
theorem bb_set : bootBuiltins (Str.ofString "set") = some (.type "set") := by kernel_rfl
section
variable {X : Cx} {C : Ct} {c0 : Cf} {W : WX}
/-- target = e -/
def sAsg (m : LE → M D) (g : GM) : SM := sE m fun d env s => (g d env).map fun env' => (.nx env', s)
theorem s1_asg {tg e : Expr} {m : LE → M D} {g : GM} {is : List Nat} {pos : Pos} (h : SE X C W e m) (k : SG X C tg g is) (hs : swapsWithSole [tg] e pos.line X.env = pure false := by rfl) (hw : swappedStores [tg] e X.env = pure none := by rfl)
    (h1 : (assignEach [tg] X.env).map (·.2) = [assign tg X.env] := by rfl) : SS1 X C c0 W (.Assign [tg] e pos) (sAsg m g) := by
  obtain ⟨t, p, s⟩ := h.out
  obtain ⟨u, q, sg⟩ := k.out
  refine ⟨_, ps_asg p q hs hw h1, fun env σ c E hR hF => s env σ c _ hR.rl (hF.fn hR fun d c' x w hR' hF' v dn => ?_)⟩
  cases eg : g d env with
  | none => rw [eg] at hF'; exact False.elim hF'
  | some env' =>
    rw [eg] at hF'
    exact sg env σ c' d v env' _ hR'.rl dn eg fun σ' R' S' => hF' σ' c' rfl (S'.rls hR' R') (Since.refl _)
/-- -e -/
def oNeg : D → M D
  | .int i => pure (.int (-i))
  | _ => mStuck
def eNeg (m : LE → M D) : LE → M D := fun env => m env >>= oNeg
theorem se_neg {e : Expr} {m : LE → M D} {pos : Pos} (h : SE X C W e m) : SE X C W (.UnaryOp .USub e pos) (eNeg m) := by
  obtain ⟨t, p, s⟩ := h.out
  refine ⟨_, pe_un un_neg p, fun env σ c Q hR hF => s env σ c _ hR (Fn.bind hF fun x c1 e1 w1 hF1 v d1 => ?_)⟩
  cases x <;> first | exact False.elim hF1 | skip
  cases (show v = _ from d1)
  exact ⟨_, rfl, Fn.ok w1 hF1 _ rfl⟩
def oIsN : D → D → M D := fun x y => if x.noOb then oIs x y else mStuck
def oNotN : D → D → M D := fun x y => if x.noOb then oIsNot x y else mStuck
/-- a constant of the module -/
structure Cst (C : Ct) (mg : Str → Option Value) (x : Str) (d : D) : Prop where
  at' : ∃ u, mg x = some u ∧ KV C u d
theorem se_gc {x : Str} {d : D} {pos : Pos} (h : Cst C X.mg x d) (hg : Gl X x := by rfl) (hd : (x == ("__debug__" : Str)) = false := by decide) : SE X C W (.Name x pos) (eK d) := by
  obtain ⟨u, hm, k⟩ := h.at'
  exact se_glob hm k hg hd
theorem kv_str {x : Str} {t : Tok} : KV C (.str x t) (.str x) := ⟨.str x, ⟨t, rfl⟩, fun _ _ => rfl⟩
theorem kv_int {x : Int} {t : Tok} : KV C (.int x t) (.int x) := ⟨.int x, ⟨t, rfl⟩, fun _ _ => rfl⟩
theorem kv_cls {k : Nat} : KV C (.ref (C.ca k)) (.cls k) := ⟨.ref (C.ca k), rfl, fun _ _ => rfl⟩
/-- a dict of the module -/
structure Kd (K : PySem.W.Frag) (w : World) (C : Ct) (mg : Str → Option Value) (x : Str) (tb : List (Str × D)) : Prop where
  at' : ∃ a, mg x = some (.ref a) ∧ KdAt K w C a tb
theorem se_kdG {x : Str} {tb : List (Str × D)} {e : Expr} {m : LE → M D} {p pos : Pos} (T : Kd X.K X.w C X.mg x tb) (h : SE X C W e m) (hg : Gl X x := by rfl) (hs : PlainIx e := by exact fun _ _ => rfl) (hdb : (x == ("__debug__" : Str)) = false := by decide) :
    SE X C W (.Subscript (.Name x p) e pos) (eKdGet tb m) := by
  obtain ⟨a, hm, k⟩ := T.at'
  exact se_kdGet hm k h hg hs hdb
theorem st_kdI {x : Str} {tb : List (Str × D)} {e : Expr} {m : LE → M D} {p pos : Pos} (T : Kd X.K X.w C X.mg x tb) (h : SE X C W e m) (hg : Gl X x := by rfl) (hdb : (x == ("__debug__" : Str)) = false := by decide) (hmk : behindInMarks .In (.Name x p) = false := by first | exact nomark _ | rfl) :
    STe X C W (.Compare e [.In] [.Name x p] pos) (tOf (eKdIn tb false m)) := by
  obtain ⟨a, hm, k⟩ := T.at'
  exact st_kdIn hm k h hg hdb hmk
theorem st_kdN {x : Str} {tb : List (Str × D)} {e : Expr} {m : LE → M D} {p pos : Pos} (T : Kd X.K X.w C X.mg x tb) (h : SE X C W e m) (hg : Gl X x := by rfl) (hdb : (x == ("__debug__" : Str)) = false := by decide) (hmk : behindInMarks .NotIn (.Name x p) = false := by first | exact nomark _ | rfl) :
    STe X C W (.Compare e [.NotIn] [.Name x p] pos) (tOf (eKdIn tb true m)) := by
  obtain ⟨a, hm, k⟩ := T.at'
  exact st_kdNotIn hm k h hg hdb hmk
end
end DL
namespace DL
open PySem L2
open PyProof.Rows hiding St
/-- a def by its body, the text laid open once -/
theorem fn_mirrorL {P : Program} {w : World} {C : Ct} {mg : Str → Option Value} {base : Heap} {x qual : Str} {st : Stmt} {f : Addr} {fd : FuncData} {N ps : List Str} {k n : Nat} {b : SM} {bd : List Stmt} {sco : Scope} (F : Fun C.K x qual st f fd) (Sc : FnScope N ps (defScope st)) (hn : N.length = n) (hb : defBody st = bd) (hs : defScope st = sco)
    (body : ∀ (cdv : Value) (A : Around) (outer : List Env) (s : Shared) (c : Cf) (E : XK), RoomG k (A.deeper (envOfC qual sco s.heap.objs.size f cdv)) →
      SS (cxOf (L2.CX P w) P w C.K mg base N qual sco f cdv A outer s c.H E) C c (WF0 E) bd b) : FnG P w C mg base (k + 1) f fd ps (mFn n b) := by
  subst hb hs hn
  exact fn_mirror F Sc body
section
variable {X : Cx} {C : Ct} {c0 : Cf} {W : WX} {k n : Nat} {f : Addr} {fd : FuncData} {ps : List Str} {m : List D → M D} {tg : Expr}
theorem se_callN {x : Str} {p pos : Pos} {e : Expr} {es : List Expr} {ma : LE → M (List D)} {dds : List D} (F : FnG X.prog X.w C X.mg X.base k f fd ps m) (room : RoomG k X.A) (tk : Takes X W) (hm : X.mg x = some (.ref f)) (hk : PySem.W.keepIn C.K (.ref f) = true)
    (df : Dfl C fd ps dds) (hn : ps.length = n) (ha : SA X C W (e :: es) ma) (hK : X.K = C.K := by rfl) (hg : Gl X x := by rfl) (hdb : (x == ("__debug__" : Str)) = false := by decide) (he : starEach (e :: es) X.env = (false, eval e X.env) :: starEach es X.env := by rfl)
    (hpl : (backTo pos (starEach es X.env)).any (·.1) = false := by rfl) : SE X C W (.Call (.Name x p) (e :: es) [] pos) (eCall n m dds ma) := by
  subst hn
  exact se_call F room tk hm hk df ha hK hg hdb he hpl
theorem se_callN0 {x : Str} {p pos : Pos} {dds : List D} (F : FnG X.prog X.w C X.mg X.base k f fd ps m) (room : RoomG k X.A) (tk : Takes X W) (hm : X.mg x = some (.ref f)) (hk : PySem.W.keepIn C.K (.ref f) = true)
    (df : Dfl C fd ps dds) (hn : ps.length = n) (hK : X.K = C.K := by rfl) (hg : Gl X x := by rfl) (hdb : (x == ("__debug__" : Str)) = false := by decide) : SE X C W (.Call (.Name x p) [] [] pos) (eCall n m dds aNil) := by
  subst hn
  exact se_call0 F room tk hm hk df hK hg hdb
theorem sn_compN {elt iter : Expr} {ifs : List Expr} {scope : Scope} (own : List (Str × Nat)) (ow : List Nat) {pos : Pos} {mi : LE → M (List D)} {mg : GM} {is : List Nat} {mt : LE → M Bool} {me : LE → M D} (ho : own.map (·.2) = ow) (hi : SI X C W tg iter mi) (hN : X.N.Nodup) (ok : blkC X.N X.env.scope scope own = true)
    (hg : ∀ (s : Shared) (H : Hp) (c : Addr) (cl : List (Str × Addr)) (fp : List Addr), SG (X.blk s H scope (compEnvC scope cl c X.env) fp) C tg mg is)
    (ht : ∀ (s : Shared) (H : Hp) (c : Addr) (cl : List (Str × Addr)) (fp : List Addr), STs (X.blk s H scope (compEnvC scope cl c X.env) fp) C WN ifs mt)
    (he : ∀ (s : Shared) (H : Hp) (c : Addr) (cl : List (Str × Addr)) (fp : List Addr), SE (X.blk s H scope (compEnvC scope cl c X.env) fp) C WN elt me)
    (sub : (is.all fun i => decide (i ∈ own.map (·.2))) = true := by rfl) (hc : X.calm = true := by rfl) (hs : ∀ x, foldedSetIterable iter X.env x = pure x := by intro _; rfl) :
    SN X C W (.ListComp elt [⟨tg, iter, ifs, 0⟩] scope pos) (nLc mi mg mt me ow) := by
  subst ho
  exact sn_comp own hi hN ok hg ht he sub hc hs
theorem s1_compN (i : Nat) {y : Str} {py : Pos} {elt iter : Expr} {ifs : List Expr} {scope : Scope} (own : List (Str × Nat)) (ow : List Nat) {pos spos : Pos} {mi : LE → M (List D)} {mg : GM} {is : List Nat} {mt : LE → M Bool} {me : LE → M D} (ho : own.map (·.2) = ow) (hi : SI X C W tg iter mi) (hN : X.N.Nodup) (ok : blkC X.N X.env.scope scope own = true)
    (hg : ∀ (s : Shared) (H : Hp) (c : Addr) (cl : List (Str × Addr)) (fp : List Addr), SG (X.blk s H scope (compEnvC scope cl c X.env) fp) C tg mg is)
    (ht : ∀ (s : Shared) (H : Hp) (c : Addr) (cl : List (Str × Addr)) (fp : List Addr), STs (X.blk s H scope (compEnvC scope cl c X.env) fp) C WN ifs mt)
    (he : ∀ (s : Shared) (H : Hp) (c : Addr) (cl : List (Str × Addr)) (fp : List Addr), SE (X.blk s H scope (compEnvC scope cl c X.env) fp) C WN elt me)
    (hy : X.N[i]? = some y := by rfl) (hyl : X.env.scope.names.lookup y = some .local := by rfl)
    (hsw : swapsWith (.ListComp elt [⟨tg, iter, ifs, 0⟩] scope pos) (some (.Name y py)) spos.line X.env = pure true := by exact sw_true rfl rfl rfl (by decide +kernel))
    (sub : (is.all fun i => decide (i ∈ own.map (·.2))) = true := by rfl) (hc : X.calm = true := by rfl) (hs : ∀ x, foldedSetIterable iter X.env x = pure x := by intro _; rfl) :
    SS1 X C c0 W (.Assign [.Name y py] (.ListComp elt [⟨tg, iter, ifs, 0⟩] scope pos) spos) (sOwn i (nLc mi mg mt me ow)) := by
  subst ho
  exact s1_comp i own hi hN ok hg ht he hy hyl hsw sub hc hs
end
end DL
set_option Elab.async false
set_option linter.all false
set_option maxRecDepth 100000
set_option maxHeartbeats 4000000
noncomputable section
namespace Lw
open PySem L2 DL
open PyProof.Rows hiding St
def top (i : Nat) : Stmt := PySem.Challenge.pw_movednames_k62_texts_of_deeds.main.body.getD i (.Pass ⟨0, 0, 0, 0⟩)
def c_DIGITS : D := (.str "0123456789")
def c_LETTERS : D := (.str "abcdefghijklmnopqrstuvwxyz")
def c_MOST_DIGITS : D := (.int 60)
def c_MOST_LETTERS : D := (.int 8)
def k_SIZES : List (Str × D) := [("parent", (.int 2)), ("look", (.int 3)), ("ask", (.int 4))]
def mt_InvalidDeeds : Nat → Option Bool
  | 1 => some true
  | 2 => some false
  | _ => none
def mt_ParseError : Nat → Option Bool
  | 1 => some false
  | 2 => some true
  | _ => none
def tb_InvalidDeeds_MoveError : Nat → Option Bool
  | 1 => some true
  | _ => none
def tb_ParseError_MoveError : Nat → Option Bool
  | 2 => some true
  | _ => none
def b__law_stream : SM := (sSeq (sSet 2 (eK (.int 0))) (sSeq (sIf (tOf (eBin oLt (eVar 1) (eB (on1 oLen) (aCons (eVar 0) aNil)))) (sSet 2 (eIx (eVar 0) (eVar 1))) sNext) (sSeq (sSet 3 (eB (on2 oMax2) (aCons (eB (on1 oInt) (aCons (eVar 2) aNil)) (aCons (eB (on1 oInt) (aCons (eBin oSub (eNeg (eK (.int 1))) (eVar 2)) aNil)) aNil)))) (sSeq (sSet 4 (eBin oMod (eB (on1 oInt) (aCons (eBin oMul (eBin oAdd (eBin oAdd (eBin oAdd (eBin oMod (eB (on1 oInt) (aCons (eVar 3) aNil)) (eK (.int 2147483629))) (eBin oMul (eBin oMul (eK (.int 7919)) (eVar 1)) (eVar 1))) (eBin oMul (eK (.int 31)) (eVar 1))) (eK (.int 17))) (eK (.int 48271))) aNil)) (eK (.int 2147483647)))) (sRet (eLoc (nLst (aCons (eBin oMul (eVar 3) (eB (on1 oInt) (aCons (eBin oGe (eVar 3) (eBin oPow (eK (.int 10)) (eK (.int 18)))) aNil))) (aCons (eVar 4) aNil)))))))))
def m__law_stream : List D → M D := mFn 5 b__law_stream
def b__law_draw : SM := (sSeq (sIf (tOf (eBin oGt (eIx (eVar 0) (eK (.int 0))) (eK (.int 0)))) (sSeq (sSet 2 (eBin oMod (eB (on1 oInt) (aCons (eIx (eVar 0) (eK (.int 0))) aNil)) (eVar 1))) (sSeq (sSetIx (eVar 0) (eK (.int 0)) (eBin oDiv (eIx (eVar 0) (eK (.int 0))) (eVar 1))) (sRet (eVar 2)))) sNext) (sSeq (sSetIx (eVar 0) (eK (.int 1)) (eBin oMod (eB (on1 oInt) (aCons (eBin oAdd (eBin oMul (eIx (eVar 0) (eK (.int 1))) (eK (.int 39373))) (eK (.int 7))) aNil)) (eK (.int 2147483647)))) (sRet (eBin oMod (eB (on1 oInt) (aCons (eBin oDiv (eBin oMod (eB (on1 oInt) (aCons (eBin oMul (eIx (eVar 0) (eK (.int 1))) (eIx (eVar 0) (eK (.int 1)))) aNil)) (eK (.int 2147483629))) (eK (.int 32))) aNil)) (eVar 1)))))
def m__law_draw : List D → M D := mFn 3 b__law_draw
def b__law_choose : SM := (sRet (eIx (eVar 1) (eCall 2 m__law_draw [] (aCons (eVar 0) (aCons (eB (on1 oLen) (aCons (eVar 1) aNil)) aNil)))))
def m__law_choose : List D → M D := mFn 2 b__law_choose
def b__law_words : SM := (sSeq (sSet 2 (eK (.str "abcdefghijklmnopqrstuvwxyz"))) (sSeq (sAsg (eTup (aCons (eCall 2 m__law_draw [] (aCons (eVar 0) (aCons (eK (.int 26)) aNil))) (aCons (eCall 2 m__law_choose [] (aCons (eVar 0) (aCons (eFrz (nLst (aCons (eK (.int 1)) (aCons (eK (.int 3)) (aCons (eK (.int 5)) (aCons (eK (.int 7)) (aCons (eK (.int 9)) (aCons (eK (.int 11)) (aCons (eK (.int 15)) (aCons (eK (.int 17)) (aCons (eK (.int 19)) (aCons (eK (.int 21)) (aCons (eK (.int 23)) (aCons (eK (.int 25)) aNil)))))))))))))) aNil))) aNil))) (gTupM 2 (gsCons (gN 3) (gsCons (gN 4) gsNil)))) (sSeq (sSet 6 (eJoin (eK (.str "")) (eFrz (nLc (iRg1 (eCall 2 m__law_draw [] (aCons (eVar 0) (aCons (eK (.int 4)) aNil)))) (gN 5) tTrue (eCall 2 m__law_choose [] (aCons (eVar 0) (aCons (eVar 2) aNil))) [5])))) (sSeq (sSet 7 (eJoin (eK (.str "")) (eFrz (nLc (iRg1 (eCall 2 m__law_draw [] (aCons (eVar 0) (aCons (eK (.int 4)) aNil)))) (gN 5) tTrue (eCall 2 m__law_choose [] (aCons (eVar 0) (aCons (eVar 2) aNil))) [5])))) (sRet (eFrz (nLc (iRg1 (eVar 1)) (gN 8) tTrue (eBin oAdd (eBin oAdd (eVar 6) (eIx (eVar 2) (eBin oMod (eB (on1 oInt) (aCons (eBin oAdd (eVar 3) (eBin oMul (eVar 4) (eVar 8))) aNil)) (eK (.int 26))))) (eVar 7)) [8])))))))
def m__law_words : List D → M D := mFn 9 b__law_words
def b__law_deed : SM := (sSeq (sSet 2 (eCall 2 m__law_choose [] (aCons (eVar 0) (aCons (eFrz (nLst (aCons (eK (.int 0)) (aCons (eK (.int 5)) (aCons (eNeg (eK (.int 3))) (aCons (eCall 2 m__law_draw [] (aCons (eVar 0) (aCons (eBin oPow (eK (.int 10)) (eK (.int 9))) aNil))) (aCons (eBin oSub (eK (.int 0)) (eCall 2 m__law_draw [] (aCons (eVar 0) (aCons (eBin oPow (eK (.int 10)) (eK (.int 13))) aNil)))) (aCons (eBin oPow (eK (.int 10)) (eK (.int 13))) aNil)))))))) aNil)))) (sSeq (sSet 3 (eCall 2 m__law_choose [] (aCons (eVar 0) (aCons (eVar 1) aNil)))) (sSeq (sSet 4 (eCall 2 m__law_choose [] (aCons (eVar 0) (aCons (eFrz (nLst (aCons (eK (.int 1)) (aCons (eK (.int 2)) (aCons (eK (.int 4)) (aCons (eBin oAdd (eK (.int 1)) (eCall 2 m__law_draw [] (aCons (eVar 0) (aCons (eK (.int 4)) aNil)))) aNil)))))) aNil)))) (sSeq (sSet 5 (eFrz (nLst (aCons (eTup (aCons (eK (.str "parent")) (aCons (eVar 2) aNil))) (aCons (eTup (aCons (eK (.str "look")) (aCons (eVar 2) (aCons (eVar 3) aNil)))) (aCons (eTup (aCons (eK (.str "ask")) (aCons (eVar 2) (aCons (eVar 4) (aCons (eVar 3) aNil))))) aNil)))))) (sSeq (sSet 5 (eBin oAdd (eVar 5) (eFrz (nLst (aCons (eTup (aCons (eK (.str "ask")) (aCons (eVar 2) (aCons (eVar 4) (aCons (eK .non) aNil))))) aNil))))) (sRet (eCall 2 m__law_choose [] (aCons (eVar 0) (aCons (eVar 5) aNil)))))))))
def m__law_deed : List D → M D := mFn 6 b__law_deed
def b_is_word : SM := (sSeq (sIf (tOrM (tNotM (tOf (eIsT noSub .str (eVar 0)))) (tNotM (tOf (eChain oLe oLe (eK (.int 1)) (eB (on1 oLen) (aCons (eVar 0) aNil)) (eK c_MOST_LETTERS))))) (sRet (eK (.bl false))) sNext) (sRet (eB (on1 oAll) (aCons (eFrz (nLc (iItems (eVar 0)) (gN 1) tTrue (eBin oIn (eVar 1) (eK c_LETTERS)) [1])) aNil))))
def m_is_word : List D → M D := mFn 2 b_is_word
def b_is_integer : SM := (sRet (eAnd (eIsT noSub .int (eVar 0)) (eNot (eIsT noSub .bl (eVar 0)))))
def m_is_integer : List D → M D := mFn 1 b_is_integer
def b_is_deed : SM := (sSeq (sIf (tOrM (tNotM (tOf (eIsT noSub .tup (eVar 0)))) (tOrM (tOf (eBin oLt (eB (on1 oLen) (aCons (eVar 0) aNil)) (eK (.int 2)))) (tNotM (tOf (eIsT noSub .str (eIx (eVar 0) (eK (.int 0)))))))) (sRet (eK (.bl false))) sNext) (sSeq (sIf (tOrM (tOf (eKdIn k_SIZES true (eIx (eVar 0) (eK (.int 0))))) (tOrM (tOf (eBin oNeS (eB (on1 oLen) (aCons (eVar 0) aNil)) (eKdGet k_SIZES (eIx (eVar 0) (eK (.int 0)))))) (tNotM (tOf (eCall 1 m_is_integer [] (aCons (eIx (eVar 0) (eK (.int 1))) aNil)))))) (sRet (eK (.bl false))) sNext) (sSeq (sIf (tOf (eBin oEqS (eIx (eVar 0) (eK (.int 0))) (eK (.str "look")))) (sRet (eCall 1 m_is_word [] (aCons (eIx (eVar 0) (eK (.int 2))) aNil))) sNext) (sRet (eOr (eBin oEqS (eIx (eVar 0) (eK (.int 0))) (eK (.str "parent"))) (eAnd (eCall 1 m_is_integer [] (aCons (eIx (eVar 0) (eK (.int 2))) aNil)) (eOr (eBin oIsN (eIx (eVar 0) (eK (.int 3))) (eK .non)) (eCall 1 m_is_word [] (aCons (eIx (eVar 0) (eK (.int 3))) aNil)))))))))
def m_is_deed : List D → M D := mFn 1 b_is_deed
def b_integer_of : SM := (sSeq (sSet 1 (eIf (tOf (eBin oEqS (eSl (eVar 0) pNone (pSome (eK (.int 1)))) (eK (.str "-")))) (eSl (eVar 0) (pSome (eK (.int 1))) pNone) (eVar 0))) (sSeq (sIf (tOrM (tNotM (tOf (eChain oLe oLe (eK (.int 1)) (eB (on1 oLen) (aCons (eVar 1) aNil)) (eK c_MOST_DIGITS)))) (tNotM (tOf (eB (on1 oAll) (aCons (eFrz (nLc (iItems (eVar 1)) (gN 2) tTrue (eBin oIn (eVar 2) (eK c_DIGITS)) [2])) aNil))))) (sRet (eK .non)) sNext) (sSeq (sIf (tAndM (tOf (eBin oEqS (eIx (eVar 1) (eK (.int 0))) (eK (.str "0")))) (tOf (eBin oNeS (eVar 0) (eK (.str "0"))))) (sRet (eK .non)) sNext) (sRet (eB (on1 oInt) (aCons (eVar 0) aNil))))))
def m_integer_of : List D → M D := mFn 3 b_integer_of
def b_name_of : SM := (sRet (eIf (tOf (eBin oEqS (eVar 0) (eK (.str "-")))) (eK .non) (eVar 0)))
def m_name_of : List D → M D := mFn 1 b_name_of
def b_deed_of : SM := (sSeq (sSet 1 (eFrz (nSplit (eVar 0) (eK (.str " "))))) (sSeq (sSet 2 (eK .non)) (sSeq (sIf (tOf (eBin oEqS (eB (on1 oLen) (aCons (eVar 1) aNil)) (eK (.int 2)))) (sSet 2 (eTup (aCons (eIx (eVar 1) (eK (.int 0))) (aCons (eCall 1 m_integer_of [] (aCons (eIx (eVar 1) (eK (.int 1))) aNil)) aNil)))) (sIf (tOf (eBin oEqS (eB (on1 oLen) (aCons (eVar 1) aNil)) (eK (.int 3)))) (sSet 2 (eTup (aCons (eIx (eVar 1) (eK (.int 0))) (aCons (eCall 1 m_integer_of [] (aCons (eIx (eVar 1) (eK (.int 1))) aNil)) (aCons (eIx (eVar 1) (eK (.int 2))) aNil))))) (sIf (tOf (eBin oEqS (eB (on1 oLen) (aCons (eVar 1) aNil)) (eK (.int 4)))) (sSet 2 (eTup (aCons (eIx (eVar 1) (eK (.int 0))) (aCons (eCall 1 m_integer_of [] (aCons (eIx (eVar 1) (eK (.int 1))) aNil)) (aCons (eCall 1 m_integer_of [] (aCons (eIx (eVar 1) (eK (.int 2))) aNil)) (aCons (eCall 1 m_name_of [] (aCons (eIx (eVar 1) (eK (.int 3))) aNil)) aNil)))))) sNext))) (sRet (eIf (tOf (eCall 1 m_is_deed [] (aCons (eVar 2) aNil))) (eVar 2) (eK .non))))))
def m_deed_of : List D → M D := mFn 3 b_deed_of
def b_parse_deeds_L1 : SM := (sSeq (sSet 4 (eCall 1 m_deed_of [] (aCons (eVar 3) aNil))) (sSeq (sIf (tOf (eBin oIsN (eVar 4) (eK .non))) (sRaise 2 "line" (eVar 2)) sNext) (sApp 1 (eVar 4))))
def b_parse_deeds : SM := (sSeq (sIf (tNotM (tOf (eIsT noSub .str (eVar 0)))) (sRaise 2 "line" (eK .non)) sNext) (sSeq (sOwn 1 (nLst aNil)) (sSeq (sFor (iEnumM (eIf (tOf (eBin oNeS (eVar 0) (eK (.str "")))) (eFrz (nSplit (eVar 0) (eK (.str "\n")))) (eFrz (nLst aNil)))) (gTupM 2 (gsCons (gN 2) (gsCons (gN 3) gsNil))) b_parse_deeds_L1) (sLoc 1 (sRet (eVar 1))))))
def m_parse_deeds : List D → M D := mFn 5 b_parse_deeds
def b__law_told : SM := (sTryAs 1 mt_ParseError (sRet (eCall 1 m_parse_deeds [] (aCons (eVar 0) aNil))) (eTup (aCons (eK (.str "no")) (aCons (eXf "line" (eVar 1)) (aCons (eIsE tb_ParseError_MoveError (eVar 1)) aNil)))))
def m__law_told : List D → M D := mFn 2 b__law_told
def b_written_deed : SM := (sRet (eJoin (eK (.str " ")) (eBin oAdd (eFrz (nLst (aCons (eIx (eVar 0) (eK (.int 0))) aNil))) (eFrz (nLc (iItems (eSl (eVar 0) (pSome (eK (.int 1))) pNone)) (gN 1) tTrue (eIf (tOf (eBin oIsN (eVar 1) (eK .non))) (eK (.str "-")) (eB (on1 oStr) (aCons (eVar 1) aNil))) [1])))))
def m_written_deed : List D → M D := mFn 2 b_written_deed
def b_format_deeds : SM := (sSeq (sIf (tOrM (tNotM (tOf (eIsT noSub .lst (eVar 0)))) (tNotM (tOf (eB (on1 oAll) (aCons (eFrz (nLc (iItems (eVar 0)) (gN 1) tTrue (eCall 1 m_is_deed [] (aCons (eVar 1) aNil)) [1])) aNil))))) (sRaise 1 "value" (eVar 0)) sNext) (sRet (eJoin (eK (.str "\n")) (eFrz (nLc (iItems (eVar 0)) (gN 1) tTrue (eCall 1 m_written_deed [] (aCons (eVar 1) aNil)) [1])))))
def m_format_deeds : List D → M D := mFn 2 b_format_deeds
def b__law_refused : SM := (sSeq (sTryAs 1 mt_InvalidDeeds (sExpr (eCall 1 m_format_deeds [] (aCons (eVar 0) aNil))) (eAnd (eBin oEqS (eB (on1 oRepr) (aCons (eXf "value" (eVar 1)) aNil)) (eB (on1 oRepr) (aCons (eVar 0) aNil))) (eIsE tb_InvalidDeeds_MoveError (eVar 1)))) (sRet (eK (.bl false))))
def m__law_refused : List D → M D := mFn 2 b__law_refused
def b__law_line : SM := (sRet (eJoin (eK (.str " ")) (eFrz (nLc (iItems (eVar 0)) (gN 1) tTrue (eIf (tOf (eBin oIsN (eVar 1) (eK .non))) (eK (.str "-")) (eB (on1 oStr) (aCons (eVar 1) aNil))) [1]))))
def m__law_line : List D → M D := mFn 2 b__law_line
def b_law_L1 : SM := (sSeq (sSet 12 (eCall 1 m__law_told [] (aCons (eVar 11) aNil))) (sSeq (sIf (tOf (eBin oNeS (eB (on1 oRepr) (aCons (eVar 12) aNil)) (eVar 9))) (sRet (eK (.bl false))) sNext) (sExpr (eClear (eVar 12)))))
def b_law_L2 : SM := (sIf (tOrM (tNotM (tOf (eCall 1 m__law_refused [] (aCons (eVar 15) aNil)))) (tOf (eBin oNeS (eCall 1 m__law_told [] (aCons (eVar 15) aNil)) (eTup (aCons (eK (.str "no")) (aCons (eK .non) (aCons (eK (.bl true)) aNil))))))) (sRet (eK (.bl false))) sNext)
def b_law_L3 : SM := (sSeq (sSet 4 (eCall 2 m__law_stream [] (aCons (eVar 0) (aCons (eVar 3) aNil)))) (sSeq (sSet 5 (eCall 2 m__law_words [] (aCons (eVar 4) (aCons (eK (.int 3)) aNil)))) (sSeq (sOwn 7 (nLc (iRg1 (eCall 2 m__law_draw [] (aCons (eVar 4) (aCons (eK (.int 16)) aNil)))) (gN 6) tTrue (eCall 2 m__law_deed [] (aCons (eVar 4) (aCons (eVar 5) aNil))) [6])) (sSeq (sFrz 7 (sPar 9 10 (aCons (eB (on1 oRepr) (aCons (eVar 7) aNil)) (aCons (eFrz (nLc (iItems (eVar 7)) (gN 8) tTrue (eCall 1 m__law_line [] (aCons (eVar 8) aNil)) [8])) aNil)))) (sSeq (sSet 11 (eJoin (eK (.str "\n")) (eVar 10))) (sSeq (sIf (tOrM (tOf (eBin oNeS (eCall 1 m_format_deeds [] (aCons (eVar 7) aNil)) (eVar 11))) (tOf (eBin oNeS (eB (on1 oRepr) (aCons (eVar 7) aNil)) (eVar 9)))) (sRet (eK (.bl false))) sNext) (sSeq (sFor (iRg1 (eK (.int 2))) (gN 6) b_law_L1) (sSeq (sSet 13 (eCall 2 m__law_draw [] (aCons (eVar 4) (aCons (eBin oAdd (eB (on1 oLen) (aCons (eVar 7) aNil)) (eK (.int 1))) aNil)))) (sSeq (sIf (tNotM (tOf (eCall 1 m__law_refused [] (aCons (eBin oAdd (eBin oAdd (eSl (eVar 7) pNone (pSome (eVar 13))) (eFrz (nLst (aCons (eCall 2 m__law_choose [] (aCons (eVar 4) (aCons (eVar 1) aNil))) aNil)))) (eSl (eVar 7) (pSome (eVar 13)) pNone)) aNil)))) (sRet (eK (.bl false))) sNext) (sSeq (sSet 14 (eBin oAdd (eBin oAdd (eSl (eVar 10) pNone (pSome (eVar 13))) (eFrz (nLst (aCons (eCall 2 m__law_choose [] (aCons (eVar 4) (aCons (eVar 2) aNil))) aNil)))) (eSl (eVar 10) (pSome (eBin oAdd (eVar 13) (eCall 2 m__law_draw [] (aCons (eVar 4) (aCons (eK (.int 2)) aNil))))) pNone))) (sSeq (sIf (tAndM (tOf (eBin oNeS (eVar 14) (eFrz (nLst (aCons (eK (.str "")) aNil))))) (tOf (eBin oNeS (eCall 1 m__law_told [] (aCons (eJoin (eK (.str "\n")) (eVar 14)) aNil)) (eTup (aCons (eK (.str "no")) (aCons (eVar 13) (aCons (eK (.bl true)) aNil))))))) (sRet (eK (.bl false))) sNext) (sFor (iItems (eFrz (nLst (aCons (eK .non) (aCons (eK (.int 5)) (aCons (eB (on1 oTuple) (aCons (eVar 7) aNil)) (aCons (eFrz nDct0) aNil))))))) (gN 15) b_law_L2))))))))))))
def b_law : SM := (sSeq (sSet 1 (eFrz (nLst (aCons (eK .non) (aCons (eTup aNil) (aCons (eK (.str "parent")) (aCons (eTup (aCons (eK (.str "parent")) aNil)) (aCons (eTup (aCons (eK (.str "parent")) (aCons (eK .non) aNil))) (aCons (eTup (aCons (eK (.str "parent")) (aCons (eK (.bl true)) aNil))) (aCons (eTup (aCons (eK (.str "parent")) (aCons (eK (.int 1)) (aCons (eK (.int 2)) aNil)))) aNil)))))))))) (sSeq (sSet 1 (eBin oAdd (eVar 1) (eFrz (nLst (aCons (eTup (aCons (eK (.str "look")) (aCons (eK (.int 1)) aNil))) (aCons (eFrz (nLst (aCons (eK (.str "parent")) (aCons (eK (.int 1)) aNil)))) aNil)))))) (sSeq (sSet 1 (eBin oAdd (eVar 1) (eFrz (nLst (aCons (eTup (aCons (eK (.str "look")) (aCons (eK (.int 1)) (aCons (eK .non) aNil)))) (aCons (eTup (aCons (eK (.str "look")) (aCons (eK (.int 1)) (aCons (eK (.str "A")) aNil)))) (aCons (eTup (aCons (eK (.str "ask")) (aCons (eK (.int 1)) (aCons (eK (.int 1)) aNil)))) (aCons (eTup (aCons (eK (.str "ask")) (aCons (eK (.int 1)) (aCons (eK .non) (aCons (eK (.str "a")) aNil))))) (aCons (eTup (aCons (eK (.str "ask")) (aCons (eK (.int 1)) (aCons (eK (.str "a")) (aCons (eK (.int 1)) aNil))))) aNil))))))))) (sSeq (sSet 1 (eBin oAdd (eVar 1) (eFrz (nLst (aCons (eTup (aCons (eK (.str "tell")) (aCons (eK (.int 1)) aNil))) (aCons (eTup (aCons (eK (.str "look")) (aCons (eK (.str "a")) (aCons (eK (.int 1)) aNil)))) (aCons (eTup (aCons (eK (.int 5)) (aCons (eK (.int 1)) aNil))) (aCons (eTup (aCons (eK (.str "ask")) (aCons (eK (.int 1)) (aCons (eK (.int 1)) (aCons (eK (.str "")) aNil))))) aNil)))))))) (sSeq (sSet 2 (eFrz (nLst (aCons (eK (.str "")) (aCons (eK (.str " ")) (aCons (eK (.str "parent")) (aCons (eK (.str "parent ")) (aCons (eK (.str "parent  1")) (aCons (eK (.str "parent 01")) (aCons (eK (.str "parent -0")) (aCons (eK (.str "parent +1")) aNil))))))))))) (sSeq (sSet 2 (eBin oAdd (eVar 2) (eFrz (nLst (aCons (eK (.str "parent 1.")) (aCons (eK (.str "parent x")) (aCons (eK (.str "look 1")) aNil))))))) (sSeq (sSet 2 (eBin oAdd (eVar 2) (eFrz (nLst (aCons (eK (.str "look 1 A")) (aCons (eK (.str "look 1 -")) (aCons (eK (.str "look x a")) (aCons (eK (.str "ask 1 1")) (aCons (eK (.str "ask 1 a 1")) (aCons (eK (.str "ask 1 - a")) (aCons (eK (.str "ask 1 1 a b")) aNil))))))))))) (sSeq (sSet 2 (eBin oAdd (eVar 2) (eFrz (nLst (aCons (eK (.str "Parent 1")) (aCons (eK (.str "ask")) aNil)))))) (sSeq (sSet 2 (eBin oAdd (eVar 2) (eFrz (nLst (aCons (eK (.str "parent 1 ")) (aCons (eK (.str " parent 1")) (aCons (eK (.str "parent\t1")) (aCons (eK (.str "parent - 1")) (aCons (eK (.str "parent --1")) (aCons (eK (.str "look 1 a+b")) aNil)))))))))) (sSeq (sSet 2 (eBin oAdd (eVar 2) (eFrz (nLst (aCons (eK (.str "ask 1 1 aaaaaaaaa")) (aCons (eK (.str "-")) aNil)))))) (sSeq (sFor (iRg1 (eB (on2 oMax2) (aCons (eK (.int 1)) (aCons (eB (on2 oMin2) (aCons (eK (.int 10)) (aCons (eB (on1 oLen) (aCons (eVar 0) aNil)) aNil))) aNil)))) (gN 3) b_law_L3) (sRet (eAnd (eBin oEqS (eCall 1 m_format_deeds [] (aCons (eFrz (nLst aNil)) aNil)) (eK (.str ""))) (eBin oEqS (eCall 1 m_parse_deeds [] (aCons (eK (.str "")) aNil)) (eFrz (nLst aNil))))))))))))))))
def m_law : List D → M D := mFn 16 b_law
structure Txt (w : World) (C : Ct) (mg : Str → Option Value) (fa fi : Nat → Addr) (fd : Nat → FuncData) : Prop where
  ex : C.ex = none
  n_all : mg "all" = none
  n_bool : mg "bool" = none
  n_enumerate : mg "enumerate" = none
  n_int : mg "int" = none
  n_isinstance : mg "isinstance" = none
  n_len : mg "len" = none
  n_list : mg "list" = none
  n_max : mg "max" = none
  n_min : mg "min" = none
  n_range : mg "range" = none
  n_repr : mg "repr" = none
  n_str : mg "str" = none
  n_tuple : mg "tuple" = none
  c_DIGITS : Cst C mg "DIGITS" c_DIGITS
  c_LETTERS : Cst C mg "LETTERS" c_LETTERS
  c_MOST_DIGITS : Cst C mg "MOST_DIGITS" c_MOST_DIGITS
  c_MOST_LETTERS : Cst C mg "MOST_LETTERS" c_MOST_LETTERS
  d_SIZES : Kd C.K w C mg "SIZES" k_SIZES
  g__law_stream : mg "_law_stream" = some (.ref (fa 0))
  k__law_stream : PySem.W.keepIn C.K (.ref (fa 0)) = true
  f__law_stream : L2.Fun C.K "_law_stream" "_law_stream" (top 22) (fa 0) (fd 0)
  b__law_stream : L2.Binds C.K (fd 0) ["_law_script", "_law_k"] []
  g__law_draw : mg "_law_draw" = some (.ref (fa 1))
  k__law_draw : PySem.W.keepIn C.K (.ref (fa 1)) = true
  f__law_draw : L2.Fun C.K "_law_draw" "_law_draw" (top 23) (fa 1) (fd 1)
  b__law_draw : L2.Binds C.K (fd 1) ["_law_stream_here", "_law_count"] []
  g__law_choose : mg "_law_choose" = some (.ref (fa 2))
  k__law_choose : PySem.W.keepIn C.K (.ref (fa 2)) = true
  f__law_choose : L2.Fun C.K "_law_choose" "_law_choose" (top 24) (fa 2) (fd 2)
  b__law_choose : L2.Binds C.K (fd 2) ["_law_stream_here", "_law_items"] []
  g__law_words : mg "_law_words" = some (.ref (fa 3))
  k__law_words : PySem.W.keepIn C.K (.ref (fa 3)) = true
  f__law_words : L2.Fun C.K "_law_words" "_law_words" (top 25) (fa 3) (fd 3)
  b__law_words : L2.Binds C.K (fd 3) ["_law_stream_here", "_law_count"] []
  g__law_deed : mg "_law_deed" = some (.ref (fa 4))
  k__law_deed : PySem.W.keepIn C.K (.ref (fa 4)) = true
  f__law_deed : L2.Fun C.K "_law_deed" "_law_deed" (top 26) (fa 4) (fd 4)
  b__law_deed : L2.Binds C.K (fd 4) ["_law_stream_here", "_law_names"] []
  g_is_word : mg "is_word" = some (.ref (fa 5))
  k_is_word : PySem.W.keepIn C.K (.ref (fa 5)) = true
  f_is_word : L2.Fun C.K "is_word" "is_word" (top 8) (fa 5) (fd 5)
  b_is_word : L2.Binds C.K (fd 5) ["value"] []
  g_is_integer : mg "is_integer" = some (.ref (fa 6))
  k_is_integer : PySem.W.keepIn C.K (.ref (fa 6)) = true
  f_is_integer : L2.Fun C.K "is_integer" "is_integer" (top 7) (fa 6) (fd 6)
  b_is_integer : L2.Binds C.K (fd 6) ["value"] []
  g_is_deed : mg "is_deed" = some (.ref (fa 7))
  k_is_deed : PySem.W.keepIn C.K (.ref (fa 7)) = true
  f_is_deed : L2.Fun C.K "is_deed" "is_deed" (top 11) (fa 7) (fd 7)
  b_is_deed : L2.Binds C.K (fd 7) ["value"] []
  g_integer_of : mg "integer_of" = some (.ref (fa 8))
  k_integer_of : PySem.W.keepIn C.K (.ref (fa 8)) = true
  f_integer_of : L2.Fun C.K "integer_of" "integer_of" (top 15) (fa 8) (fd 8)
  b_integer_of : L2.Binds C.K (fd 8) ["word"] []
  g_name_of : mg "name_of" = some (.ref (fa 9))
  k_name_of : PySem.W.keepIn C.K (.ref (fa 9)) = true
  f_name_of : L2.Fun C.K "name_of" "name_of" (top 16) (fa 9) (fd 9)
  b_name_of : L2.Binds C.K (fd 9) ["word"] []
  g_deed_of : mg "deed_of" = some (.ref (fa 10))
  k_deed_of : PySem.W.keepIn C.K (.ref (fa 10)) = true
  f_deed_of : L2.Fun C.K "deed_of" "deed_of" (top 18) (fa 10) (fd 10)
  b_deed_of : L2.Binds C.K (fd 10) ["line"] []
  g_parse_deeds : mg "parse_deeds" = some (.ref (fa 11))
  k_parse_deeds : PySem.W.keepIn C.K (.ref (fa 11)) = true
  f_parse_deeds : L2.Fun C.K "parse_deeds" "parse_deeds" (top 20) (fa 11) (fd 11)
  b_parse_deeds : L2.Binds C.K (fd 11) ["text"] []
  g__law_told : mg "_law_told" = some (.ref (fa 12))
  k__law_told : PySem.W.keepIn C.K (.ref (fa 12)) = true
  f__law_told : L2.Fun C.K "_law_told" "_law_told" (top 29) (fa 12) (fd 12)
  b__law_told : L2.Binds C.K (fd 12) ["_law_text"] []
  g_written_deed : mg "written_deed" = some (.ref (fa 13))
  k_written_deed : PySem.W.keepIn C.K (.ref (fa 13)) = true
  f_written_deed : L2.Fun C.K "written_deed" "written_deed" (top 17) (fa 13) (fd 13)
  b_written_deed : L2.Binds C.K (fd 13) ["deed"] []
  g_format_deeds : mg "format_deeds" = some (.ref (fa 14))
  k_format_deeds : PySem.W.keepIn C.K (.ref (fa 14)) = true
  f_format_deeds : L2.Fun C.K "format_deeds" "format_deeds" (top 19) (fa 14) (fd 14)
  b_format_deeds : L2.Binds C.K (fd 14) ["deeds"] []
  g__law_refused : mg "_law_refused" = some (.ref (fa 15))
  k__law_refused : PySem.W.keepIn C.K (.ref (fa 15)) = true
  f__law_refused : L2.Fun C.K "_law_refused" "_law_refused" (top 28) (fa 15) (fd 15)
  b__law_refused : L2.Binds C.K (fd 15) ["_law_thing"] []
  g__law_line : mg "_law_line" = some (.ref (fa 16))
  k__law_line : PySem.W.keepIn C.K (.ref (fa 16)) = true
  f__law_line : L2.Fun C.K "_law_line" "_law_line" (top 27) (fa 16) (fd 16)
  b__law_line : L2.Binds C.K (fd 16) ["_law_deed_here"] []
  g_law : mg "law" = some (.ref (fa 17))
  k_law : PySem.W.keepIn C.K (.ref (fa 17)) = true
  f_law : L2.Fun C.K "law" "law" (top 30) (fa 17) (fd 17)
  b_law : L2.Binds C.K (fd 17) ["_law_script"] []
  g_InvalidDeeds : mg "InvalidDeeds" = some (.ref (C.ca 1))
  g_MoveError : mg "MoveError" = some (.ref (C.ca 0))
  g_ParseError : mg "ParseError" = some (.ref (C.ca 2))
  e_InvalidDeeds : PySem.ErrX.ErrTxt PySem.Challenge.pw_movednames_k62_texts_of_deeds C.K mg "InvalidDeeds" "value" (C.ca 1) (fi 1)
  e_ParseError : PySem.ErrX.ErrTxt PySem.Challenge.pw_movednames_k62_texts_of_deeds C.K mg "ParseError" "line" (C.ca 2) (fi 2)
  mx_InvalidDeeds : Mt C.K C 1 mt_InvalidDeeds
  xf_InvalidDeeds : ∀ {j : Nat}, mt_InvalidDeeds j = some true → L2.XfC C.K (C.ca j)
  xn_InvalidDeeds : ∀ {j : Nat}, mt_InvalidDeeds j = some true → PySem.W.findIn C.K (.ref (C.ca j)) "value" = some none
  xi_InvalidDeeds : ∀ {j : Nat}, mt_InvalidDeeds j = some true → PySem.ErrX.ErrIs C.K (C.ca j)
  mx_ParseError : Mt C.K C 2 mt_ParseError
  xf_ParseError : ∀ {j : Nat}, mt_ParseError j = some true → L2.XfC C.K (C.ca j)
  xn_ParseError : ∀ {j : Nat}, mt_ParseError j = some true → PySem.W.findIn C.K (.ref (C.ca j)) "line" = some none
  xi_ParseError : ∀ {j : Nat}, mt_ParseError j = some true → PySem.ErrX.ErrIs C.K (C.ca j)
  tb_InvalidDeeds_MoveError : Tb C.K C (.ref (C.ca 0)) tb_InvalidDeeds_MoveError
  tb_ParseError_MoveError : Tb C.K C (.ref (C.ca 0)) tb_ParseError_MoveError
section
variable {w : World} {C : Ct} {mg : Str → Option Value} {base : Heap} {fa fi : Nat → Addr} {fd : Nat → FuncData}
theorem sc__law_stream : L2.FnScope ["_law_script", "_law_k", "_law_cell", "_law_size", "_law_mixed"] ["_law_script", "_law_k"] (defScope (top 22)) := ⟨rfl, rfl, rfl, by decide +kernel, rfl, by decide +kernel, by decide +kernel⟩
theorem ok__law_stream (T : Txt w C mg fa fi fd) : FnG PySem.Challenge.pw_movednames_k62_texts_of_deeds w C mg base 2 (fa 0) (fd 0) ["_law_script", "_law_k"] m__law_stream := by
  have sc := sc__law_stream
  refine fn_mirrorL (bd := ?bd) (sco := ?sco) (k := 1) (b := b__law_stream) T.f__law_stream sc rfl ?hb ?hs ?body
  (case hb => conv => lhs; whnf)
  (case hs => conv => lhs; whnf)
  intro cdv A outer s c E hr
  exact (ss_cons (s1_set 2 se_int sc.nd) (ss_cons (s1_if (st_cmp op_ltU s_lt (se_var 1) (se_callB call_lenU s_len T.n_len bb_len (sa_cons (se_var 0) sa_nil))) (ss_one (s1_set 2 (se_ix (se_var 0) (se_var 1)) sc.nd)) ss_nil) (ss_cons (s1_set 3 (se_callB (call_max2 rfl) s_max2 T.n_max bb_max (sa_cons (se_callT call_intU s_int T.n_int bb_int (sa_cons (se_var 2) sa_nil)) (sa_cons (se_callT call_intU s_int T.n_int bb_int (sa_cons (se_op op_sub s_sub (se_neg se_int) (se_var 2)) sa_nil)) sa_nil))) sc.nd) (ss_cons (s1_set 4 (se_op op_mod s_mod (se_callT call_intU s_int T.n_int bb_int (sa_cons (se_op op_mul s_mul (se_op op_addU s_add (se_op op_addU s_add (se_op op_addU s_add (se_op op_mod s_mod (se_callT call_intU s_int T.n_int bb_int (sa_cons (se_var 3) sa_nil)) se_int) (se_op op_mul s_mul (se_op op_mul s_mul se_int (se_var 1)) (se_var 1))) (se_op op_mul s_mul se_int (se_var 1))) se_int) se_int) sa_nil)) se_int) sc.nd) (ss_one (s1_ret (se_loc (sn_lst (sa_cons (se_op op_mul s_mul (se_var 3) (se_callT call_intU s_int T.n_int bb_int (sa_cons (se_cmp op_ge s_ge (se_var 3) (se_op op_pow s_pow se_int se_int)) sa_nil))) (sa_cons (se_var 4) sa_nil))))))))))
theorem sc__law_draw : L2.FnScope ["_law_stream_here", "_law_count", "_law_result"] ["_law_stream_here", "_law_count"] (defScope (top 23)) := ⟨rfl, rfl, rfl, by decide +kernel, rfl, by decide +kernel, by decide +kernel⟩
theorem ok__law_draw (T : Txt w C mg fa fi fd) : FnG PySem.Challenge.pw_movednames_k62_texts_of_deeds w C mg base 2 (fa 1) (fd 1) ["_law_stream_here", "_law_count"] m__law_draw := by
  have sc := sc__law_draw
  refine fn_mirrorL (bd := ?bd) (sco := ?sco) (k := 1) (b := b__law_draw) T.f__law_draw sc rfl ?hb ?hs ?body
  (case hb => conv => lhs; whnf)
  (case hs => conv => lhs; whnf)
  intro cdv A outer s c E hr
  exact (ss_cons (s1_if (st_cmp op_gt s_gt (se_ix (se_var 0) se_int) se_int) (ss_cons (s1_set 2 (se_op op_mod s_mod (se_callT call_intU s_int T.n_int bb_int (sa_cons (se_ix (se_var 0) se_int) sa_nil)) (se_var 1)) sc.nd) (ss_cons (s1_setix (se_var 0) se_int (se_op op_fdivW s_div (se_ix (se_var 0) se_int) (se_var 1))) (ss_one (s1_ret (se_var 2))))) ss_nil) (ss_cons (s1_setix (se_var 0) se_int (se_op op_mod s_mod (se_callT call_intU s_int T.n_int bb_int (sa_cons (se_op op_addU s_add (se_op op_mul s_mul (se_ix (se_var 0) se_int) se_int) se_int) sa_nil)) se_int)) (ss_one (s1_ret (se_op op_mod s_mod (se_callT call_intU s_int T.n_int bb_int (sa_cons (se_op op_fdivW s_div (se_op op_mod s_mod (se_callT call_intU s_int T.n_int bb_int (sa_cons (se_op op_mul s_mul (se_ix (se_var 0) se_int) (se_ix (se_var 0) se_int)) sa_nil)) se_int) se_int) sa_nil)) (se_var 1))))))
theorem sc__law_choose : L2.FnScope ["_law_stream_here", "_law_items"] ["_law_stream_here", "_law_items"] (defScope (top 24)) := ⟨rfl, rfl, rfl, by decide +kernel, rfl, by decide +kernel, by decide +kernel⟩
theorem ok__law_choose (T : Txt w C mg fa fi fd) : FnG PySem.Challenge.pw_movednames_k62_texts_of_deeds w C mg base 3 (fa 2) (fd 2) ["_law_stream_here", "_law_items"] m__law_choose := by
  have sc := sc__law_choose
  refine fn_mirrorL (bd := ?bd) (sco := ?sco) (k := 2) (b := b__law_choose) T.f__law_choose sc rfl ?hb ?hs ?body
  (case hb => conv => lhs; whnf)
  (case hs => conv => lhs; whnf)
  intro cdv A outer s c E hr
  exact (ss_one (s1_ret (se_ix (se_var 1) (se_callN ((ok__law_draw T).mono (by decide)) hr (takes_of rfl rfl rfl rfl) T.g__law_draw T.k__law_draw (Dfl.none T.b__law_draw) rfl (sa_cons (se_var 0) (sa_cons (se_callB call_lenU s_len T.n_len bb_len (sa_cons (se_var 1) sa_nil)) sa_nil))))))
theorem sc__law_words : L2.FnScope ["_law_stream_here", "_law_count", "_law_letters", "_law_first", "_law_step", "_law_turn", "_law_head", "_law_tail", "_law_at"] ["_law_stream_here", "_law_count"] (defScope (top 25)) := ⟨rfl, rfl, rfl, by decide +kernel, rfl, by decide +kernel, by decide +kernel⟩
theorem ok__law_words (T : Txt w C mg fa fi fd) : FnG PySem.Challenge.pw_movednames_k62_texts_of_deeds w C mg base 4 (fa 3) (fd 3) ["_law_stream_here", "_law_count"] m__law_words := by
  have sc := sc__law_words
  refine fn_mirrorL (bd := ?bd) (sco := ?sco) (k := 3) (b := b__law_words) T.f__law_words sc rfl ?hb ?hs ?body
  (case hb => conv => lhs; whnf)
  (case hs => conv => lhs; whnf)
  intro cdv A outer s c E hr
  exact (ss_cons (s1_set 2 se_str sc.nd) (ss_cons (s1_asg (se_tup (sa_cons (se_callN ((ok__law_draw T).mono (by decide)) hr (takes_of rfl rfl rfl rfl) T.g__law_draw T.k__law_draw (Dfl.none T.b__law_draw) rfl (sa_cons (se_var 0) (sa_cons se_int sa_nil))) (sa_cons (se_callN ((ok__law_choose T).mono (by decide)) hr (takes_of rfl rfl rfl rfl) T.g__law_choose T.k__law_choose (Dfl.none T.b__law_choose) rfl (sa_cons (se_var 0) (sa_cons (se_frz (sn_lst (sa_cons se_int (sa_cons se_int (sa_cons se_int (sa_cons se_int (sa_cons se_int (sa_cons se_int (sa_cons se_int (sa_cons se_int (sa_cons se_int (sa_cons se_int (sa_cons se_int (sa_cons se_int sa_nil)))))))))))))) sa_nil))) sa_nil))) (sg_tup rfl (sgs_cons (sg_name 3 sc.nd) (sgs_cons (sg_name 4 sc.nd) sgs_nil)))) (ss_cons (s1_set 6 (se_join se_str (se_frz (sn_compN [("_law_turn", 5)] [5] rfl (si_range1 T.n_range (se_callN ((ok__law_draw T).mono (by decide)) hr (takes_of rfl rfl rfl rfl) T.g__law_draw T.k__law_draw (Dfl.none T.b__law_draw) rfl (sa_cons (se_var 0) (sa_cons se_int sa_nil)))) sc.nd (by kernel_rfl) (fun _ _ _ _ _ => (sg_name 5 sc.nd)) (fun _ _ _ _ _ => sts_nil) (fun _ _ _ _ _ => (se_callN ((ok__law_choose T).mono (by decide)) hr takes0 T.g__law_choose T.k__law_choose (Dfl.none T.b__law_choose) rfl (sa_cons (se_var 0) (sa_cons (se_var 2) sa_nil))))))) sc.nd) (ss_cons (s1_set 7 (se_join se_str (se_frz (sn_compN [("_law_turn", 5)] [5] rfl (si_range1 T.n_range (se_callN ((ok__law_draw T).mono (by decide)) hr (takes_of rfl rfl rfl rfl) T.g__law_draw T.k__law_draw (Dfl.none T.b__law_draw) rfl (sa_cons (se_var 0) (sa_cons se_int sa_nil)))) sc.nd (by kernel_rfl) (fun _ _ _ _ _ => (sg_name 5 sc.nd)) (fun _ _ _ _ _ => sts_nil) (fun _ _ _ _ _ => (se_callN ((ok__law_choose T).mono (by decide)) hr takes0 T.g__law_choose T.k__law_choose (Dfl.none T.b__law_choose) rfl (sa_cons (se_var 0) (sa_cons (se_var 2) sa_nil))))))) sc.nd) (ss_one (s1_ret (se_frz (sn_compN [("_law_at", 8)] [8] rfl (si_range1 T.n_range (se_var 1)) sc.nd (by kernel_rfl) (fun _ _ _ _ _ => (sg_name 8 sc.nd)) (fun _ _ _ _ _ => sts_nil) (fun _ _ _ _ _ => (se_op op_addU s_add (se_op op_addU s_add (se_var 6) (se_ix (se_var 2) (se_op op_mod s_mod (se_callT call_intU s_int T.n_int bb_int (sa_cons (se_op op_addU s_add (se_var 3) (se_op op_mul s_mul (se_var 4) (se_var 8))) sa_nil)) se_int))) (se_var 7)))))))))))
theorem sc__law_deed : L2.FnScope ["_law_stream_here", "_law_names", "_law_moment", "_law_name", "_law_front", "_law_some"] ["_law_stream_here", "_law_names"] (defScope (top 26)) := ⟨rfl, rfl, rfl, by decide +kernel, rfl, by decide +kernel, by decide +kernel⟩
theorem ok__law_deed (T : Txt w C mg fa fi fd) : FnG PySem.Challenge.pw_movednames_k62_texts_of_deeds w C mg base 4 (fa 4) (fd 4) ["_law_stream_here", "_law_names"] m__law_deed := by
  have sc := sc__law_deed
  refine fn_mirrorL (bd := ?bd) (sco := ?sco) (k := 3) (b := b__law_deed) T.f__law_deed sc rfl ?hb ?hs ?body
  (case hb => conv => lhs; whnf)
  (case hs => conv => lhs; whnf)
  intro cdv A outer s c E hr
  exact (ss_cons (s1_set 2 (se_callN ((ok__law_choose T).mono (by decide)) hr (takes_of rfl rfl rfl rfl) T.g__law_choose T.k__law_choose (Dfl.none T.b__law_choose) rfl (sa_cons (se_var 0) (sa_cons (se_frz (sn_lst (sa_cons se_int (sa_cons se_int (sa_cons (se_neg se_int) (sa_cons (se_callN ((ok__law_draw T).mono (by decide)) hr (takes_of rfl rfl rfl rfl) T.g__law_draw T.k__law_draw (Dfl.none T.b__law_draw) rfl (sa_cons (se_var 0) (sa_cons (se_op op_pow s_pow se_int se_int) sa_nil))) (sa_cons (se_op op_sub s_sub se_int (se_callN ((ok__law_draw T).mono (by decide)) hr (takes_of rfl rfl rfl rfl) T.g__law_draw T.k__law_draw (Dfl.none T.b__law_draw) rfl (sa_cons (se_var 0) (sa_cons (se_op op_pow s_pow se_int se_int) sa_nil)))) (sa_cons (se_op op_pow s_pow se_int se_int) sa_nil)))))))) sa_nil))) sc.nd) (ss_cons (s1_set 3 (se_callN ((ok__law_choose T).mono (by decide)) hr (takes_of rfl rfl rfl rfl) T.g__law_choose T.k__law_choose (Dfl.none T.b__law_choose) rfl (sa_cons (se_var 0) (sa_cons (se_var 1) sa_nil))) sc.nd) (ss_cons (s1_set 4 (se_callN ((ok__law_choose T).mono (by decide)) hr (takes_of rfl rfl rfl rfl) T.g__law_choose T.k__law_choose (Dfl.none T.b__law_choose) rfl (sa_cons (se_var 0) (sa_cons (se_frz (sn_lst (sa_cons se_int (sa_cons se_int (sa_cons se_int (sa_cons (se_op op_addU s_add se_int (se_callN ((ok__law_draw T).mono (by decide)) hr (takes_of rfl rfl rfl rfl) T.g__law_draw T.k__law_draw (Dfl.none T.b__law_draw) rfl (sa_cons (se_var 0) (sa_cons se_int sa_nil)))) sa_nil)))))) sa_nil))) sc.nd) (ss_cons (s1_set 5 (se_frz (sn_lst (sa_cons (se_tup (sa_cons se_str (sa_cons (se_var 2) sa_nil))) (sa_cons (se_tup (sa_cons se_str (sa_cons (se_var 2) (sa_cons (se_var 3) sa_nil)))) (sa_cons (se_tup (sa_cons se_str (sa_cons (se_var 2) (sa_cons (se_var 4) (sa_cons (se_var 3) sa_nil))))) sa_nil))))) sc.nd) (ss_cons (s1_set 5 (se_op op_addU s_add (se_var 5) (se_frz (sn_lst (sa_cons (se_tup (sa_cons se_str (sa_cons (se_var 2) (sa_cons (se_var 4) (sa_cons se_non sa_nil))))) sa_nil)))) sc.nd) (ss_one (s1_ret (se_callN ((ok__law_choose T).mono (by decide)) hr (takes_of rfl rfl rfl rfl) T.g__law_choose T.k__law_choose (Dfl.none T.b__law_choose) rfl (sa_cons (se_var 0) (sa_cons (se_var 5) sa_nil))))))))))
theorem sc_is_word : L2.FnScope ["value", "letter"] ["value"] (defScope (top 8)) := ⟨rfl, rfl, rfl, by decide +kernel, rfl, by decide +kernel, by decide +kernel⟩
theorem ok_is_word (T : Txt w C mg fa fi fd) : FnG PySem.Challenge.pw_movednames_k62_texts_of_deeds w C mg base 2 (fa 5) (fd 5) ["value"] m_is_word := by
  have sc := sc_is_word
  refine fn_mirrorL (bd := ?bd) (sco := ?sco) (k := 1) (b := b_is_word) T.f_is_word sc rfl ?hb ?hs ?body
  (case hb => conv => lhs; whnf)
  (case hs => conv => lhs; whnf)
  intro cdv A outer s c E hr
  exact (ss_cons (s1_if (st_sw (sw_or (st_not (st_val (se_isT .str T.n_isinstance T.n_str SubT.no (se_var 0) rfl bb_str))) (sw_or1 (st_not (st_chain op_le s_le op_le s_le se_int (se_callB call_lenU s_len T.n_len bb_len (sa_cons (se_var 0) sa_nil)) (se_gc T.c_MOST_LETTERS)))))) (ss_one (s1_ret se_bl)) ss_nil) (ss_one (s1_ret (se_callB (cr_all rfl) (s_all rfl) T.n_all bb_all (sa_cons (se_frz (sn_compN [("letter", 1)] [1] rfl (si_any (se_var 0)) sc.nd (by kernel_rfl) (fun _ _ _ _ _ => (sg_name 1 sc.nd)) (fun _ _ _ _ _ => sts_nil) (fun _ _ _ _ _ => (se_cmp op_inU s_in (se_var 1) (se_gc T.c_LETTERS))))) sa_nil)))))
theorem sc_is_integer : L2.FnScope ["value"] ["value"] (defScope (top 7)) := ⟨rfl, rfl, rfl, by decide +kernel, rfl, by decide +kernel, by decide +kernel⟩
theorem ok_is_integer (T : Txt w C mg fa fi fd) : FnG PySem.Challenge.pw_movednames_k62_texts_of_deeds w C mg base 2 (fa 6) (fd 6) ["value"] m_is_integer := by
  have sc := sc_is_integer
  refine fn_mirrorL (bd := ?bd) (sco := ?sco) (k := 1) (b := b_is_integer) T.f_is_integer sc rfl ?hb ?hs ?body
  (case hb => conv => lhs; whnf)
  (case hs => conv => lhs; whnf)
  intro cdv A outer s c E hr
  exact (ss_one (s1_ret (se_and (se_isT .int T.n_isinstance T.n_int SubT.no (se_var 0) rfl bb_int) (se_one (se_not (se_isT .bl T.n_isinstance T.n_bool SubT.no (se_var 0) rfl bb_bool))))))
theorem sc_is_deed : L2.FnScope ["value"] ["value"] (defScope (top 11)) := ⟨rfl, rfl, rfl, by decide +kernel, rfl, by decide +kernel, by decide +kernel⟩
theorem ok_is_deed (T : Txt w C mg fa fi fd) : FnG PySem.Challenge.pw_movednames_k62_texts_of_deeds w C mg base 3 (fa 7) (fd 7) ["value"] m_is_deed := by
  have sc := sc_is_deed
  refine fn_mirrorL (bd := ?bd) (sco := ?sco) (k := 2) (b := b_is_deed) T.f_is_deed sc rfl ?hb ?hs ?body
  (case hb => conv => lhs; whnf)
  (case hs => conv => lhs; whnf)
  intro cdv A outer s c E hr
  exact (ss_cons (s1_if (st_sw (sw_or (st_not (st_val (se_isT .tup T.n_isinstance T.n_tuple SubT.no (se_var 0) rfl bb_tuple))) (sw_or (st_cmp op_ltU s_lt (se_callB call_lenU s_len T.n_len bb_len (sa_cons (se_var 0) sa_nil)) se_int) (sw_or1 (st_not (st_val (se_isT .str T.n_isinstance T.n_str SubT.no (se_ix (se_var 0) se_int) rfl bb_str))))))) (ss_one (s1_ret se_bl)) ss_nil) (ss_cons (s1_if (st_sw (sw_or (st_kdN T.d_SIZES (se_ix (se_var 0) se_int)) (sw_or (st_cmp (op_neU hr.units) s_neS (se_callB call_lenU s_len T.n_len bb_len (sa_cons (se_var 0) sa_nil)) (se_kdG T.d_SIZES (se_ix (se_var 0) se_int))) (sw_or1 (st_not (st_val (se_callN ((ok_is_integer T).mono (by decide)) hr (takes_of rfl rfl rfl rfl) T.g_is_integer T.k_is_integer (Dfl.none T.b_is_integer) rfl (sa_cons (se_ix (se_var 0) se_int) sa_nil)))))))) (ss_one (s1_ret se_bl)) ss_nil) (ss_cons (s1_if (st_cmp (op_eqU hr.units) s_eqS (se_ix (se_var 0) se_int) se_str) (ss_one (s1_ret (se_callN ((ok_is_word T).mono (by decide)) hr (takes_of rfl rfl rfl rfl) T.g_is_word T.k_is_word (Dfl.none T.b_is_word) rfl (sa_cons (se_ix (se_var 0) se_int) sa_nil)))) ss_nil) (ss_one (s1_ret (se_or (se_cmp (op_eqU hr.units) s_eqS (se_ix (se_var 0) se_int) se_str) (se_one (se_and (se_callN ((ok_is_integer T).mono (by decide)) hr (takes_of rfl rfl rfl rfl) T.g_is_integer T.k_is_integer (Dfl.none T.b_is_integer) rfl (sa_cons (se_ix (se_var 0) se_int) sa_nil)) (se_one (se_or (se_cmp op_isN s_is (se_ix (se_var 0) se_int) se_non) (se_one (se_callN ((ok_is_word T).mono (by decide)) hr (takes_of rfl rfl rfl rfl) T.g_is_word T.k_is_word (Dfl.none T.b_is_word) rfl (sa_cons (se_ix (se_var 0) se_int) sa_nil)))))))))))))
theorem sc_integer_of : L2.FnScope ["word", "digits", "digit"] ["word"] (defScope (top 15)) := ⟨rfl, rfl, rfl, by decide +kernel, rfl, by decide +kernel, by decide +kernel⟩
theorem ok_integer_of (T : Txt w C mg fa fi fd) : FnG PySem.Challenge.pw_movednames_k62_texts_of_deeds w C mg base 2 (fa 8) (fd 8) ["word"] m_integer_of := by
  have sc := sc_integer_of
  refine fn_mirrorL (bd := ?bd) (sco := ?sco) (k := 1) (b := b_integer_of) T.f_integer_of sc rfl ?hb ?hs ?body
  (case hb => conv => lhs; whnf)
  (case hs => conv => lhs; whnf)
  intro cdv A outer s c E hr
  exact (ss_cons (s1_set 1 (se_if (st_cmp (op_eqU hr.units) s_eqS (se_sl (se_var 0) so_none (so_some se_int)) se_str) (se_sl (se_var 0) (so_some se_int) so_none) (se_var 0)) sc.nd) (ss_cons (s1_if (st_sw (sw_or (st_not (st_chain op_le s_le op_le s_le se_int (se_callB call_lenU s_len T.n_len bb_len (sa_cons (se_var 1) sa_nil)) (se_gc T.c_MOST_DIGITS))) (sw_or1 (st_not (st_val (se_callB (cr_all rfl) (s_all rfl) T.n_all bb_all (sa_cons (se_frz (sn_compN [("digit", 2)] [2] rfl (si_any (se_var 1)) sc.nd (by kernel_rfl) (fun _ _ _ _ _ => (sg_name 2 sc.nd)) (fun _ _ _ _ _ => sts_nil) (fun _ _ _ _ _ => (se_cmp op_inU s_in (se_var 2) (se_gc T.c_DIGITS))))) sa_nil))))))) (ss_one (s1_ret se_non)) ss_nil) (ss_cons (s1_if (st_sw (sw_and (st_cmp (op_eqU hr.units) s_eqS (se_ix (se_var 1) se_int) se_str) (sw_and1 (st_cmp (op_neU hr.units) s_neS (se_var 0) se_str)))) (ss_one (s1_ret se_non)) ss_nil) (ss_one (s1_ret (se_callT call_intU s_int T.n_int bb_int (sa_cons (se_var 0) sa_nil)))))))
theorem sc_name_of : L2.FnScope ["word"] ["word"] (defScope (top 16)) := ⟨rfl, rfl, rfl, by decide +kernel, rfl, by decide +kernel, by decide +kernel⟩
theorem ok_name_of (T : Txt w C mg fa fi fd) : FnG PySem.Challenge.pw_movednames_k62_texts_of_deeds w C mg base 2 (fa 9) (fd 9) ["word"] m_name_of := by
  have sc := sc_name_of
  refine fn_mirrorL (bd := ?bd) (sco := ?sco) (k := 1) (b := b_name_of) T.f_name_of sc rfl ?hb ?hs ?body
  (case hb => conv => lhs; whnf)
  (case hs => conv => lhs; whnf)
  intro cdv A outer s c E hr
  exact (ss_one (s1_ret (se_if (st_cmp (op_eqU hr.units) s_eqS (se_var 0) se_str) se_non (se_var 0))))
theorem sc_deed_of : L2.FnScope ["line", "words", "found"] ["line"] (defScope (top 18)) := ⟨rfl, rfl, rfl, by decide +kernel, rfl, by decide +kernel, by decide +kernel⟩
theorem ok_deed_of (T : Txt w C mg fa fi fd) : FnG PySem.Challenge.pw_movednames_k62_texts_of_deeds w C mg base 4 (fa 10) (fd 10) ["line"] m_deed_of := by
  have sc := sc_deed_of
  refine fn_mirrorL (bd := ?bd) (sco := ?sco) (k := 3) (b := b_deed_of) T.f_deed_of sc rfl ?hb ?hs ?body
  (case hb => conv => lhs; whnf)
  (case hs => conv => lhs; whnf)
  intro cdv A outer s c E hr
  exact (ss_cons (s1_set 1 (se_frz (sn_split (se_var 0) se_str)) sc.nd) (ss_cons (s1_set 2 se_non sc.nd) (ss_cons (s1_if (st_cmp (op_eqU hr.units) s_eqS (se_callB call_lenU s_len T.n_len bb_len (sa_cons (se_var 1) sa_nil)) se_int) (ss_one (s1_set 2 (se_tup (sa_cons (se_ix (se_var 1) se_int) (sa_cons (se_callN ((ok_integer_of T).mono (by decide)) hr (takes_of rfl rfl rfl rfl) T.g_integer_of T.k_integer_of (Dfl.none T.b_integer_of) rfl (sa_cons (se_ix (se_var 1) se_int) sa_nil)) sa_nil))) sc.nd)) (ss_one (s1_if (st_cmp (op_eqU hr.units) s_eqS (se_callB call_lenU s_len T.n_len bb_len (sa_cons (se_var 1) sa_nil)) se_int) (ss_one (s1_set 2 (se_tup (sa_cons (se_ix (se_var 1) se_int) (sa_cons (se_callN ((ok_integer_of T).mono (by decide)) hr (takes_of rfl rfl rfl rfl) T.g_integer_of T.k_integer_of (Dfl.none T.b_integer_of) rfl (sa_cons (se_ix (se_var 1) se_int) sa_nil)) (sa_cons (se_ix (se_var 1) se_int) sa_nil)))) sc.nd)) (ss_one (s1_if (st_cmp (op_eqU hr.units) s_eqS (se_callB call_lenU s_len T.n_len bb_len (sa_cons (se_var 1) sa_nil)) se_int) (ss_one (s1_set 2 (se_tup (sa_cons (se_ix (se_var 1) se_int) (sa_cons (se_callN ((ok_integer_of T).mono (by decide)) hr (takes_of rfl rfl rfl rfl) T.g_integer_of T.k_integer_of (Dfl.none T.b_integer_of) rfl (sa_cons (se_ix (se_var 1) se_int) sa_nil)) (sa_cons (se_callN ((ok_integer_of T).mono (by decide)) hr (takes_of rfl rfl rfl rfl) T.g_integer_of T.k_integer_of (Dfl.none T.b_integer_of) rfl (sa_cons (se_ix (se_var 1) se_int) sa_nil)) (sa_cons (se_callN ((ok_name_of T).mono (by decide)) hr (takes_of rfl rfl rfl rfl) T.g_name_of T.k_name_of (Dfl.none T.b_name_of) rfl (sa_cons (se_ix (se_var 1) se_int) sa_nil)) sa_nil))))) sc.nd)) ss_nil))))) (ss_one (s1_ret (se_if (st_val (se_callN ((ok_is_deed T).mono (by decide)) hr (takes_of rfl rfl rfl rfl) T.g_is_deed T.k_is_deed (Dfl.none T.b_is_deed) rfl (sa_cons (se_var 2) sa_nil))) (se_var 2) se_non))))))
theorem sc_parse_deeds : L2.FnScope ["text", "deeds", "number", "line", "deed"] ["text"] (defScope (top 20)) := ⟨rfl, rfl, rfl, by decide +kernel, rfl, by decide +kernel, by decide +kernel⟩
theorem ok_parse_deeds (T : Txt w C mg fa fi fd) : FnG PySem.Challenge.pw_movednames_k62_texts_of_deeds w C mg base 5 (fa 11) (fd 11) ["text"] m_parse_deeds := by
  have sc := sc_parse_deeds
  refine fn_mirrorL (bd := ?bd) (sco := ?sco) (k := 4) (b := b_parse_deeds) T.f_parse_deeds sc rfl ?hb ?hs ?body
  (case hb => conv => lhs; whnf)
  (case hs => conv => lhs; whnf)
  intro cdv A outer s c E hr
  exact (ss_cons (s1_if (st_not (st_val (se_isT .str T.n_isinstance T.n_str SubT.no (se_var 0) rfl bb_str))) (ss_one (s1_raise T.e_ParseError hr (takes_of rfl rfl rfl rfl) se_non)) ss_nil) (ss_cons (s1_own 1 (sn_lst sa_nil) sc.nd) (ss_cons (s1_for (si_enum T.n_enumerate (se_if (st_cmp (op_neU hr.units) s_neS (se_var 0) se_str) (se_frz (sn_split (se_var 0) se_str)) (se_frz (sn_lst sa_nil)))) (sg_tup rfl (sgs_cons (sg_name 2 sc.nd) (sgs_cons (sg_name 3 sc.nd) sgs_nil))) (ss_cons (s1_set 4 (se_callN ((ok_deed_of T).mono (by decide)) hr (takes_of rfl rfl rfl rfl) T.g_deed_of T.k_deed_of (Dfl.none T.b_deed_of) rfl (sa_cons (se_var 3) sa_nil)) sc.nd) (ss_cons (s1_if (st_cmp op_isN s_is (se_var 4) se_non) (ss_one (s1_raise T.e_ParseError hr (takes_of rfl rfl rfl rfl) (se_var 2))) ss_nil) (ss_one (s1_app 1 (se_var 4) (hb := fun hv ha => pe_bm PySem.F.plainAttrs_list PySem.F.slot_list_append PySem.F.type_list_append mt_append hv ha))))) (passes_of rfl)) (ss_one (s1_loc 1 (s1_ret (se_var 1)))))))
theorem sc__law_told : L2.FnScope ["_law_text", "e"] ["_law_text"] (defScope (top 29)) := ⟨rfl, rfl, rfl, by decide +kernel, rfl, by decide +kernel, by decide +kernel⟩
theorem ok__law_told (T : Txt w C mg fa fi fd) : FnG PySem.Challenge.pw_movednames_k62_texts_of_deeds w C mg base 6 (fa 12) (fd 12) ["_law_text"] m__law_told := by
  have sc := sc__law_told
  refine fn_mirrorL (bd := ?bd) (sco := ?sco) (k := 5) (b := b__law_told) T.f__law_told sc rfl ?hb ?hs ?body
  (case hb => conv => lhs; whnf)
  (case hs => conv => lhs; whnf)
  intro cdv A outer s c E hr
  exact (ss_one (s1_tryAs 1 2 (takes_of rfl rfl rfl rfl) T.mx_ParseError ⟨rfl, by decide, .inl T.g_ParseError⟩ T.ex (fun _ _ _ t_ p_ => (ss_one (s1_ret (se_callN ((ok_parse_deeds T).mono (by decide)) hr t_ T.g_parse_deeds T.k_parse_deeds (Dfl.none T.b_parse_deeds) rfl (sa_cons (se_var 0) sa_nil))))) (fun _ _ _ _ _ hj hz hf => (se_tup (sa_cons se_str (sa_cons (se_xf (T.xf_ParseError hj) (T.xn_ParseError hj) hz hf (se_var 1)) (sa_cons (se_isE T.n_isinstance (T.xi_ParseError hj) T.tb_ParseError_MoveError (clsN_own T.g_MoveError) hz hf (se_var 1)) sa_nil))))) sc.nd))
theorem sc_written_deed : L2.FnScope ["deed", "part"] ["deed"] (defScope (top 17)) := ⟨rfl, rfl, rfl, by decide +kernel, rfl, by decide +kernel, by decide +kernel⟩
theorem ok_written_deed (T : Txt w C mg fa fi fd) : FnG PySem.Challenge.pw_movednames_k62_texts_of_deeds w C mg base 2 (fa 13) (fd 13) ["deed"] m_written_deed := by
  have sc := sc_written_deed
  refine fn_mirrorL (bd := ?bd) (sco := ?sco) (k := 1) (b := b_written_deed) T.f_written_deed sc rfl ?hb ?hs ?body
  (case hb => conv => lhs; whnf)
  (case hs => conv => lhs; whnf)
  intro cdv A outer s c E hr
  exact (ss_one (s1_ret (se_join se_str (se_op op_addU s_add (se_frz (sn_lst (sa_cons (se_ix (se_var 0) se_int) sa_nil))) (se_frz (sn_compN [("part", 1)] [1] rfl (si_any (se_sl (se_var 0) (so_some se_int) so_none)) sc.nd (by kernel_rfl) (fun _ _ _ _ _ => (sg_name 1 sc.nd)) (fun _ _ _ _ _ => sts_nil) (fun _ _ _ _ _ => (se_if (st_cmp op_isN s_is (se_var 1) se_non) se_str (se_callT call_strU s_str T.n_str bb_str (sa_cons (se_var 1) sa_nil))))))))))
theorem sc_format_deeds : L2.FnScope ["deeds", "deed"] ["deeds"] (defScope (top 19)) := ⟨rfl, rfl, rfl, by decide +kernel, rfl, by decide +kernel, by decide +kernel⟩
theorem ok_format_deeds (T : Txt w C mg fa fi fd) : FnG PySem.Challenge.pw_movednames_k62_texts_of_deeds w C mg base 4 (fa 14) (fd 14) ["deeds"] m_format_deeds := by
  have sc := sc_format_deeds
  refine fn_mirrorL (bd := ?bd) (sco := ?sco) (k := 3) (b := b_format_deeds) T.f_format_deeds sc rfl ?hb ?hs ?body
  (case hb => conv => lhs; whnf)
  (case hs => conv => lhs; whnf)
  intro cdv A outer s c E hr
  exact (ss_cons (s1_if (st_sw (sw_or (st_not (st_val (se_isT .lst T.n_isinstance T.n_list SubT.no (se_var 0) rfl bb_list))) (sw_or1 (st_not (st_val (se_callB (cr_all rfl) (s_all rfl) T.n_all bb_all (sa_cons (se_frz (sn_compN [("deed", 1)] [1] rfl (si_any (se_var 0)) sc.nd (by kernel_rfl) (fun _ _ _ _ _ => (sg_name 1 sc.nd)) (fun _ _ _ _ _ => sts_nil) (fun _ _ _ _ _ => (se_callN ((ok_is_deed T).mono (by decide)) hr takes0 T.g_is_deed T.k_is_deed (Dfl.none T.b_is_deed) rfl (sa_cons (se_var 1) sa_nil))))) sa_nil))))))) (ss_one (s1_raise T.e_InvalidDeeds hr (takes_of rfl rfl rfl rfl) (se_var 0))) ss_nil) (ss_one (s1_ret (se_join se_str (se_frz (sn_compN [("deed", 1)] [1] rfl (si_any (se_var 0)) sc.nd (by kernel_rfl) (fun _ _ _ _ _ => (sg_name 1 sc.nd)) (fun _ _ _ _ _ => sts_nil) (fun _ _ _ _ _ => (se_callN ((ok_written_deed T).mono (by decide)) hr takes0 T.g_written_deed T.k_written_deed (Dfl.none T.b_written_deed) rfl (sa_cons (se_var 1) sa_nil)))))))))
theorem sc__law_refused : L2.FnScope ["_law_thing", "e"] ["_law_thing"] (defScope (top 28)) := ⟨rfl, rfl, rfl, by decide +kernel, rfl, by decide +kernel, by decide +kernel⟩
theorem ok__law_refused (T : Txt w C mg fa fi fd) : FnG PySem.Challenge.pw_movednames_k62_texts_of_deeds w C mg base 5 (fa 15) (fd 15) ["_law_thing"] m__law_refused := by
  have sc := sc__law_refused
  refine fn_mirrorL (bd := ?bd) (sco := ?sco) (k := 4) (b := b__law_refused) T.f__law_refused sc rfl ?hb ?hs ?body
  (case hb => conv => lhs; whnf)
  (case hs => conv => lhs; whnf)
  intro cdv A outer s c E hr
  exact (ss_cons (s1_tryAs 1 1 (takes_of rfl rfl rfl rfl) T.mx_InvalidDeeds ⟨rfl, by decide, .inl T.g_InvalidDeeds⟩ T.ex (fun _ _ _ t_ p_ => (ss_one (s1_expr (se_callN ((ok_format_deeds T).mono (by decide)) hr t_ T.g_format_deeds T.k_format_deeds (Dfl.none T.b_format_deeds) rfl (sa_cons (se_var 0) sa_nil))))) (fun _ _ _ _ _ hj hz hf => (se_and (se_cmp (op_eqU hr.units) s_eqS (se_callB (call_reprU hr.gd hr.units) (s_repr rfl) T.n_repr bb_repr (sa_cons (se_xf (T.xf_InvalidDeeds hj) (T.xn_InvalidDeeds hj) hz hf (se_var 1)) sa_nil)) (se_callB (call_reprU hr.gd hr.units) (s_repr rfl) T.n_repr bb_repr (sa_cons (se_var 0) sa_nil))) (se_one (se_isE T.n_isinstance (T.xi_InvalidDeeds hj) T.tb_InvalidDeeds_MoveError (clsN_own T.g_MoveError) hz hf (se_var 1))))) sc.nd) (ss_one (s1_ret se_bl)))
theorem sc__law_line : L2.FnScope ["_law_deed_here", "_law_part"] ["_law_deed_here"] (defScope (top 27)) := ⟨rfl, rfl, rfl, by decide +kernel, rfl, by decide +kernel, by decide +kernel⟩
theorem ok__law_line (T : Txt w C mg fa fi fd) : FnG PySem.Challenge.pw_movednames_k62_texts_of_deeds w C mg base 2 (fa 16) (fd 16) ["_law_deed_here"] m__law_line := by
  have sc := sc__law_line
  refine fn_mirrorL (bd := ?bd) (sco := ?sco) (k := 1) (b := b__law_line) T.f__law_line sc rfl ?hb ?hs ?body
  (case hb => conv => lhs; whnf)
  (case hs => conv => lhs; whnf)
  intro cdv A outer s c E hr
  exact (ss_one (s1_ret (se_join se_str (se_frz (sn_compN [("_law_part", 1)] [1] rfl (si_any (se_var 0)) sc.nd (by kernel_rfl) (fun _ _ _ _ _ => (sg_name 1 sc.nd)) (fun _ _ _ _ _ => sts_nil) (fun _ _ _ _ _ => (se_if (st_cmp op_isN s_is (se_var 1) se_non) se_str (se_callT call_strU s_str T.n_str bb_str (sa_cons (se_var 1) sa_nil)))))))))
theorem sc_law : L2.FnScope ["_law_script", "_law_odd", "_law_bad", "_law_k", "_law_stream_here", "_law_names", "_law_turn", "_law_deeds", "_law_deed_here", "_law_held", "_law_lines", "_law_text", "_law_found", "_law_at", "_law_some", "_law_thing"] ["_law_script"] (defScope (top 30)) := ⟨rfl, rfl, rfl, by decide +kernel, rfl, by decide +kernel, by decide +kernel⟩
theorem ok_law (T : Txt w C mg fa fi fd) : FnG PySem.Challenge.pw_movednames_k62_texts_of_deeds w C mg base 7 (fa 17) (fd 17) ["_law_script"] m_law := by
  have sc := sc_law
  refine fn_mirrorL (bd := ?bd) (sco := ?sco) (k := 6) (b := b_law) T.f_law sc rfl ?hb ?hs ?body
  (case hb => conv => lhs; whnf)
  (case hs => conv => lhs; whnf)
  intro cdv A outer s c E hr
  exact (ss_cons (s1_set 1 (se_frz (sn_lst (sa_cons se_non (sa_cons (se_tup sa_nil) (sa_cons se_str (sa_cons (se_tup (sa_cons se_str sa_nil)) (sa_cons (se_tup (sa_cons se_str (sa_cons se_non sa_nil))) (sa_cons (se_tup (sa_cons se_str (sa_cons se_bl sa_nil))) (sa_cons (se_tup (sa_cons se_str (sa_cons se_int (sa_cons se_int sa_nil)))) sa_nil))))))))) sc.nd) (ss_cons (s1_set 1 (se_op op_addU s_add (se_var 1) (se_frz (sn_lst (sa_cons (se_tup (sa_cons se_str (sa_cons se_int sa_nil))) (sa_cons (se_frz (sn_lst (sa_cons se_str (sa_cons se_int sa_nil)))) sa_nil))))) sc.nd) (ss_cons (s1_set 1 (se_op op_addU s_add (se_var 1) (se_frz (sn_lst (sa_cons (se_tup (sa_cons se_str (sa_cons se_int (sa_cons se_non sa_nil)))) (sa_cons (se_tup (sa_cons se_str (sa_cons se_int (sa_cons se_str sa_nil)))) (sa_cons (se_tup (sa_cons se_str (sa_cons se_int (sa_cons se_int sa_nil)))) (sa_cons (se_tup (sa_cons se_str (sa_cons se_int (sa_cons se_non (sa_cons se_str sa_nil))))) (sa_cons (se_tup (sa_cons se_str (sa_cons se_int (sa_cons se_str (sa_cons se_int sa_nil))))) sa_nil)))))))) sc.nd) (ss_cons (s1_set 1 (se_op op_addU s_add (se_var 1) (se_frz (sn_lst (sa_cons (se_tup (sa_cons se_str (sa_cons se_int sa_nil))) (sa_cons (se_tup (sa_cons se_str (sa_cons se_str (sa_cons se_int sa_nil)))) (sa_cons (se_tup (sa_cons se_int (sa_cons se_int sa_nil))) (sa_cons (se_tup (sa_cons se_str (sa_cons se_int (sa_cons se_int (sa_cons se_str sa_nil))))) sa_nil))))))) sc.nd) (ss_cons (s1_set 2 (se_frz (sn_lst (sa_cons se_str (sa_cons se_str (sa_cons se_str (sa_cons se_str (sa_cons se_str (sa_cons se_str (sa_cons se_str (sa_cons se_str sa_nil)))))))))) sc.nd) (ss_cons (s1_set 2 (se_op op_addU s_add (se_var 2) (se_frz (sn_lst (sa_cons se_str (sa_cons se_str (sa_cons se_str sa_nil)))))) sc.nd) (ss_cons (s1_set 2 (se_op op_addU s_add (se_var 2) (se_frz (sn_lst (sa_cons se_str (sa_cons se_str (sa_cons se_str (sa_cons se_str (sa_cons se_str (sa_cons se_str (sa_cons se_str sa_nil)))))))))) sc.nd) (ss_cons (s1_set 2 (se_op op_addU s_add (se_var 2) (se_frz (sn_lst (sa_cons se_str (sa_cons se_str sa_nil))))) sc.nd) (ss_cons (s1_set 2 (se_op op_addU s_add (se_var 2) (se_frz (sn_lst (sa_cons se_str (sa_cons se_str (sa_cons se_str (sa_cons se_str (sa_cons se_str (sa_cons se_str sa_nil))))))))) sc.nd) (ss_cons (s1_set 2 (se_op op_addU s_add (se_var 2) (se_frz (sn_lst (sa_cons se_str (sa_cons se_str sa_nil))))) sc.nd) (ss_cons (s1_for (si_range1 T.n_range (se_callB (call_max2 rfl) s_max2 T.n_max bb_max (sa_cons se_int (sa_cons (se_callB (call_min2 rfl) s_min2 T.n_min bb_min (sa_cons se_int (sa_cons (se_callB call_lenU s_len T.n_len bb_len (sa_cons (se_var 0) sa_nil)) sa_nil))) sa_nil)))) (sg_name 3 sc.nd) (ss_cons (s1_set 4 (se_callN ((ok__law_stream T).mono (by decide)) hr (takes_of rfl rfl rfl rfl) T.g__law_stream T.k__law_stream (Dfl.none T.b__law_stream) rfl (sa_cons (se_var 0) (sa_cons (se_var 3) sa_nil))) sc.nd) (ss_cons (s1_set 5 (se_callN ((ok__law_words T).mono (by decide)) hr (takes_of rfl rfl rfl rfl) T.g__law_words T.k__law_words (Dfl.none T.b__law_words) rfl (sa_cons (se_var 4) (sa_cons se_int sa_nil))) sc.nd) (ss_cons (s1_compN 7 [("_law_turn", 6)] [6] rfl (si_range1 T.n_range (se_callN ((ok__law_draw T).mono (by decide)) hr (takes_of rfl rfl rfl rfl) T.g__law_draw T.k__law_draw (Dfl.none T.b__law_draw) rfl (sa_cons (se_var 4) (sa_cons se_int sa_nil)))) sc.nd (by kernel_rfl) (fun _ _ _ _ _ => (sg_name 6 sc.nd)) (fun _ _ _ _ _ => sts_nil) (fun _ _ _ _ _ => (se_callN ((ok__law_deed T).mono (by decide)) hr takes0 T.g__law_deed T.k__law_deed (Dfl.none T.b__law_deed) rfl (sa_cons (se_var 4) (sa_cons (se_var 5) sa_nil))))) (ss_cons (s1_frz 7 (s1_par 9 10 (sa_cons (se_callB (call_reprU hr.gd hr.units) (s_repr rfl) T.n_repr bb_repr (sa_cons (se_var 7) sa_nil)) (sa_cons (se_frz (sn_compN [("_law_deed_here", 8)] [8] rfl (si_any (se_var 7)) sc.nd (by kernel_rfl) (fun _ _ _ _ _ => (sg_name 8 sc.nd)) (fun _ _ _ _ _ => sts_nil) (fun _ _ _ _ _ => (se_callN ((ok__law_line T).mono (by decide)) hr takes0 T.g__law_line T.k__law_line (Dfl.none T.b__law_line) rfl (sa_cons (se_var 8) sa_nil))))) sa_nil)) sc.nd (by rfl))) (ss_cons (s1_set 11 (se_join se_str (se_var 10)) sc.nd) (ss_cons (s1_if (st_sw (sw_or (st_cmp (op_neU hr.units) s_neS (se_callN ((ok_format_deeds T).mono (by decide)) hr (takes_of rfl rfl rfl rfl) T.g_format_deeds T.k_format_deeds (Dfl.none T.b_format_deeds) rfl (sa_cons (se_var 7) sa_nil)) (se_var 11)) (sw_or1 (st_cmp (op_neU hr.units) s_neS (se_callB (call_reprU hr.gd hr.units) (s_repr rfl) T.n_repr bb_repr (sa_cons (se_var 7) sa_nil)) (se_var 9))))) (ss_one (s1_ret se_bl)) ss_nil) (ss_cons (s1_for (si_range1 T.n_range se_int) (sg_name 6 sc.nd) (ss_cons (s1_set 12 (se_callN ((ok__law_told T).mono (by decide)) hr (takes_of rfl rfl rfl rfl) T.g__law_told T.k__law_told (Dfl.none T.b__law_told) rfl (sa_cons (se_var 11) sa_nil)) sc.nd) (ss_cons (s1_if (st_cmp (op_neU hr.units) s_neS (se_callB (call_reprU hr.gd hr.units) (s_repr rfl) T.n_repr bb_repr (sa_cons (se_var 12) sa_nil)) (se_var 9)) (ss_one (s1_ret se_bl)) ss_nil) (ss_one (s1_expr (se_clear (se_var 12)))))) (passes_of rfl)) (ss_cons (s1_set 13 (se_callN ((ok__law_draw T).mono (by decide)) hr (takes_of rfl rfl rfl rfl) T.g__law_draw T.k__law_draw (Dfl.none T.b__law_draw) rfl (sa_cons (se_var 4) (sa_cons (se_op op_addU s_add (se_callB call_lenU s_len T.n_len bb_len (sa_cons (se_var 7) sa_nil)) se_int) sa_nil))) sc.nd) (ss_cons (s1_if (st_not (st_val (se_callN ((ok__law_refused T).mono (by decide)) hr (takes_of rfl rfl rfl rfl) T.g__law_refused T.k__law_refused (Dfl.none T.b__law_refused) rfl (sa_cons (se_op op_addU s_add (se_op op_addU s_add (se_sl (se_var 7) so_none (so_some (se_var 13))) (se_frz (sn_lst (sa_cons (se_callN ((ok__law_choose T).mono (by decide)) hr (takes_of rfl rfl rfl rfl) T.g__law_choose T.k__law_choose (Dfl.none T.b__law_choose) rfl (sa_cons (se_var 4) (sa_cons (se_var 1) sa_nil))) sa_nil)))) (se_sl (se_var 7) (so_some (se_var 13)) so_none)) sa_nil)))) (ss_one (s1_ret se_bl)) ss_nil) (ss_cons (s1_set 14 (se_op op_addU s_add (se_op op_addU s_add (se_sl (se_var 10) so_none (so_some (se_var 13))) (se_frz (sn_lst (sa_cons (se_callN ((ok__law_choose T).mono (by decide)) hr (takes_of rfl rfl rfl rfl) T.g__law_choose T.k__law_choose (Dfl.none T.b__law_choose) rfl (sa_cons (se_var 4) (sa_cons (se_var 2) sa_nil))) sa_nil)))) (se_sl (se_var 10) (so_some (se_op op_addU s_add (se_var 13) (se_callN ((ok__law_draw T).mono (by decide)) hr (takes_of rfl rfl rfl rfl) T.g__law_draw T.k__law_draw (Dfl.none T.b__law_draw) rfl (sa_cons (se_var 4) (sa_cons se_int sa_nil))))) so_none)) sc.nd) (ss_cons (s1_if (st_sw (sw_and (st_cmp (op_neU hr.units) s_neS (se_var 14) (se_frz (sn_lst (sa_cons se_str sa_nil)))) (sw_and1 (st_cmp (op_neU hr.units) s_neS (se_callN ((ok__law_told T).mono (by decide)) hr (takes_of rfl rfl rfl rfl) T.g__law_told T.k__law_told (Dfl.none T.b__law_told) rfl (sa_cons (se_join se_str (se_var 14)) sa_nil)) (se_tup (sa_cons se_str (sa_cons (se_var 13) (sa_cons se_bl sa_nil)))))))) (ss_one (s1_ret se_bl)) ss_nil) (ss_one (s1_for (si_any (se_frz (sn_lst (sa_cons se_non (sa_cons se_int (sa_cons (se_callT call_tuple_of (s_tuple rfl) T.n_tuple bb_tuple (sa_cons (se_var 7) sa_nil)) (sa_cons (se_frz sn_dct0) sa_nil))))))) (sg_name 15 sc.nd) (ss_one (s1_if (st_sw (sw_or (st_not (st_val (se_callN ((ok__law_refused T).mono (by decide)) hr (takes_of rfl rfl rfl rfl) T.g__law_refused T.k__law_refused (Dfl.none T.b__law_refused) rfl (sa_cons (se_var 15) sa_nil)))) (sw_or1 (st_cmp (op_neU hr.units) s_neS (se_callN ((ok__law_told T).mono (by decide)) hr (takes_of rfl rfl rfl rfl) T.g__law_told T.k__law_told (Dfl.none T.b__law_told) rfl (sa_cons (se_var 15) sa_nil)) (se_tup (sa_cons se_str (sa_cons se_non (sa_cons se_bl sa_nil)))))))) (ss_one (s1_ret se_bl)) ss_nil)) (passes_of rfl)))))))))))))) (passes_of rfl)) (ss_one (s1_ret (se_and (se_cmp (op_eqU hr.units) s_eqS (se_callN ((ok_format_deeds T).mono (by decide)) hr (takes_of rfl rfl rfl rfl) T.g_format_deeds T.k_format_deeds (Dfl.none T.b_format_deeds) rfl (sa_cons (se_frz (sn_lst sa_nil)) sa_nil)) se_str) (se_one (se_cmp (op_eqU hr.units) s_eqS (se_callN ((ok_parse_deeds T).mono (by decide)) hr (takes_of rfl rfl rfl rfl) T.g_parse_deeds T.k_parse_deeds (Dfl.none T.b_parse_deeds) rfl (sa_cons se_str sa_nil)) (se_frz (sn_lst sa_nil))))))))))))))))))
end
theorem all_mk {w : World} {K : PySem.W.Frag} {h : Heap} {mg : Str → Option Value} {fa : Addr} (X : K.In h) (G : h.Ns mainGlobals mg) (hfa : mg "law" = some (.ref fa))
  {f0 : Addr}
  {oc0 kV0 dc0 pm0 cd0 ct0 : Value}
  {od0 an0 : Option Addr}
  {sl0 : Array (Option Value)}
  {f1 : Addr}
  {oc1 kV1 dc1 pm1 cd1 ct1 : Value}
  {od1 an1 : Option Addr}
  {sl1 : Array (Option Value)}
  {f2 : Addr}
  {oc2 kV2 dc2 pm2 cd2 ct2 : Value}
  {od2 an2 : Option Addr}
  {sl2 : Array (Option Value)}
  {f3 : Addr}
  {oc3 kV3 dc3 pm3 cd3 ct3 : Value}
  {od3 an3 : Option Addr}
  {sl3 : Array (Option Value)}
  {f4 : Addr}
  {oc4 kV4 dc4 pm4 cd4 ct4 : Value}
  {od4 an4 : Option Addr}
  {sl4 : Array (Option Value)}
  {f5 : Addr}
  {oc5 kV5 dc5 pm5 cd5 ct5 : Value}
  {od5 an5 : Option Addr}
  {sl5 : Array (Option Value)}
  {f6 : Addr}
  {oc6 kV6 dc6 pm6 cd6 ct6 : Value}
  {od6 an6 : Option Addr}
  {sl6 : Array (Option Value)}
  {f7 : Addr}
  {oc7 kV7 dc7 pm7 cd7 ct7 : Value}
  {od7 an7 : Option Addr}
  {sl7 : Array (Option Value)}
  {f8 : Addr}
  {oc8 kV8 dc8 pm8 cd8 ct8 : Value}
  {od8 an8 : Option Addr}
  {sl8 : Array (Option Value)}
  {f9 : Addr}
  {oc9 kV9 dc9 pm9 cd9 ct9 : Value}
  {od9 an9 : Option Addr}
  {sl9 : Array (Option Value)}
  {f10 : Addr}
  {oc10 kV10 dc10 pm10 cd10 ct10 : Value}
  {od10 an10 : Option Addr}
  {sl10 : Array (Option Value)}
  {f11 : Addr}
  {oc11 kV11 dc11 pm11 cd11 ct11 : Value}
  {od11 an11 : Option Addr}
  {sl11 : Array (Option Value)}
  {f12 : Addr}
  {oc12 kV12 dc12 pm12 cd12 ct12 : Value}
  {od12 an12 : Option Addr}
  {sl12 : Array (Option Value)}
  {f13 : Addr}
  {oc13 kV13 dc13 pm13 cd13 ct13 : Value}
  {od13 an13 : Option Addr}
  {sl13 : Array (Option Value)}
  {f14 : Addr}
  {oc14 kV14 dc14 pm14 cd14 ct14 : Value}
  {od14 an14 : Option Addr}
  {sl14 : Array (Option Value)}
  {f15 : Addr}
  {oc15 kV15 dc15 pm15 cd15 ct15 : Value}
  {od15 an15 : Option Addr}
  {sl15 : Array (Option Value)}
  {f16 : Addr}
  {oc16 kV16 dc16 pm16 cd16 ct16 : Value}
  {od16 an16 : Option Addr}
  {sl16 : Array (Option Value)}
  {f17 : Addr}
  {oc17 kV17 dc17 pm17 cd17 ct17 : Value}
  {od17 an17 : Option Addr}
  {sl17 : Array (Option Value)}
  {t_DIGITS : Tok}
  {t_LETTERS : Tok}
  {t_MOST_DIGITS : Tok}
  {t_MOST_LETTERS : Tok}
  {ad_SIZES : Addr}
  {ep_SIZES : Nat}
  {t_SIZES0 u_SIZES0 : Tok}
  {t_SIZES1 u_SIZES1 : Tok}
  {t_SIZES2 u_SIZES2 : Tok}
  {A0 : Addr}
  {A1 : Addr}
  {A2 : Addr}
  {nm1 q1 : Str}
  {N1 : Addr}
  {bs1 bm1 : List Value}
  {sn1 : List Str}
  {sub1 : List Value}
  {ab1 : Bool}
  {col1 : Option Bool}
  {dd1 : Option Addr}
  {m01 m11 m21 m31 m51 : Option Value}
  {fI1 : Addr}
  {ocI1 docI1 pmI1 ctI1 : Value}
  {odI1 anI1 : Option Addr}
  {slI1 : Array (Option Value)}
  {cda1 cc1 : Addr}
  {ccl1 cl1 : Value}
  {cdd1 cld1 : Option Addr}
  {vs1 : Array Value}
  {ccs1 csl1 : Array (Option Value)}
  {fil1 : Str}
  {tf1 : Tok}
  {nm2 q2 : Str}
  {N2 : Addr}
  {bs2 bm2 : List Value}
  {sn2 : List Str}
  {sub2 : List Value}
  {ab2 : Bool}
  {col2 : Option Bool}
  {dd2 : Option Addr}
  {m02 m12 m22 m32 m52 : Option Value}
  {fI2 : Addr}
  {ocI2 docI2 pmI2 ctI2 : Value}
  {odI2 anI2 : Option Addr}
  {slI2 : Array (Option Value)}
  {cda2 cc2 : Addr}
  {ccl2 cl2 : Value}
  {cdd2 cld2 : Option Addr}
  {vs2 : Array Value}
  {ccs2 csl2 : Array (Option Value)}
  {fil2 : Str}
  {tf2 : Tok}
  (a0 : PySem.W.nsIn K mainGlobals "_law_stream" = some (some (.ref f0)))
  (l0 : K.lookup f0 = some ⟨oc0, od0, .func (PySem.W.fnOf "_law_stream" "_law_stream" (defArgs (top 22)) (defBody (top 22)) (defScope (top 22)) .none kV0 dc0 pm0 an0 cd0 ct0), sl0⟩)
  (c0 : PySem.W.codeIn K cd0 "_law_stream" = true)
  (k0 : PySem.W.keepIn K (.ref f0) = true)
  (a1 : PySem.W.nsIn K mainGlobals "_law_draw" = some (some (.ref f1)))
  (l1 : K.lookup f1 = some ⟨oc1, od1, .func (PySem.W.fnOf "_law_draw" "_law_draw" (defArgs (top 23)) (defBody (top 23)) (defScope (top 23)) .none kV1 dc1 pm1 an1 cd1 ct1), sl1⟩)
  (c1 : PySem.W.codeIn K cd1 "_law_draw" = true)
  (k1 : PySem.W.keepIn K (.ref f1) = true)
  (a2 : PySem.W.nsIn K mainGlobals "_law_choose" = some (some (.ref f2)))
  (l2 : K.lookup f2 = some ⟨oc2, od2, .func (PySem.W.fnOf "_law_choose" "_law_choose" (defArgs (top 24)) (defBody (top 24)) (defScope (top 24)) .none kV2 dc2 pm2 an2 cd2 ct2), sl2⟩)
  (c2 : PySem.W.codeIn K cd2 "_law_choose" = true)
  (k2 : PySem.W.keepIn K (.ref f2) = true)
  (a3 : PySem.W.nsIn K mainGlobals "_law_words" = some (some (.ref f3)))
  (l3 : K.lookup f3 = some ⟨oc3, od3, .func (PySem.W.fnOf "_law_words" "_law_words" (defArgs (top 25)) (defBody (top 25)) (defScope (top 25)) .none kV3 dc3 pm3 an3 cd3 ct3), sl3⟩)
  (c3 : PySem.W.codeIn K cd3 "_law_words" = true)
  (k3 : PySem.W.keepIn K (.ref f3) = true)
  (a4 : PySem.W.nsIn K mainGlobals "_law_deed" = some (some (.ref f4)))
  (l4 : K.lookup f4 = some ⟨oc4, od4, .func (PySem.W.fnOf "_law_deed" "_law_deed" (defArgs (top 26)) (defBody (top 26)) (defScope (top 26)) .none kV4 dc4 pm4 an4 cd4 ct4), sl4⟩)
  (c4 : PySem.W.codeIn K cd4 "_law_deed" = true)
  (k4 : PySem.W.keepIn K (.ref f4) = true)
  (a5 : PySem.W.nsIn K mainGlobals "is_word" = some (some (.ref f5)))
  (l5 : K.lookup f5 = some ⟨oc5, od5, .func (PySem.W.fnOf "is_word" "is_word" (defArgs (top 8)) (defBody (top 8)) (defScope (top 8)) .none kV5 dc5 pm5 an5 cd5 ct5), sl5⟩)
  (c5 : PySem.W.codeIn K cd5 "is_word" = true)
  (k5 : PySem.W.keepIn K (.ref f5) = true)
  (a6 : PySem.W.nsIn K mainGlobals "is_integer" = some (some (.ref f6)))
  (l6 : K.lookup f6 = some ⟨oc6, od6, .func (PySem.W.fnOf "is_integer" "is_integer" (defArgs (top 7)) (defBody (top 7)) (defScope (top 7)) .none kV6 dc6 pm6 an6 cd6 ct6), sl6⟩)
  (c6 : PySem.W.codeIn K cd6 "is_integer" = true)
  (k6 : PySem.W.keepIn K (.ref f6) = true)
  (a7 : PySem.W.nsIn K mainGlobals "is_deed" = some (some (.ref f7)))
  (l7 : K.lookup f7 = some ⟨oc7, od7, .func (PySem.W.fnOf "is_deed" "is_deed" (defArgs (top 11)) (defBody (top 11)) (defScope (top 11)) .none kV7 dc7 pm7 an7 cd7 ct7), sl7⟩)
  (c7 : PySem.W.codeIn K cd7 "is_deed" = true)
  (k7 : PySem.W.keepIn K (.ref f7) = true)
  (a8 : PySem.W.nsIn K mainGlobals "integer_of" = some (some (.ref f8)))
  (l8 : K.lookup f8 = some ⟨oc8, od8, .func (PySem.W.fnOf "integer_of" "integer_of" (defArgs (top 15)) (defBody (top 15)) (defScope (top 15)) .none kV8 dc8 pm8 an8 cd8 ct8), sl8⟩)
  (c8 : PySem.W.codeIn K cd8 "integer_of" = true)
  (k8 : PySem.W.keepIn K (.ref f8) = true)
  (a9 : PySem.W.nsIn K mainGlobals "name_of" = some (some (.ref f9)))
  (l9 : K.lookup f9 = some ⟨oc9, od9, .func (PySem.W.fnOf "name_of" "name_of" (defArgs (top 16)) (defBody (top 16)) (defScope (top 16)) .none kV9 dc9 pm9 an9 cd9 ct9), sl9⟩)
  (c9 : PySem.W.codeIn K cd9 "name_of" = true)
  (k9 : PySem.W.keepIn K (.ref f9) = true)
  (a10 : PySem.W.nsIn K mainGlobals "deed_of" = some (some (.ref f10)))
  (l10 : K.lookup f10 = some ⟨oc10, od10, .func (PySem.W.fnOf "deed_of" "deed_of" (defArgs (top 18)) (defBody (top 18)) (defScope (top 18)) .none kV10 dc10 pm10 an10 cd10 ct10), sl10⟩)
  (c10 : PySem.W.codeIn K cd10 "deed_of" = true)
  (k10 : PySem.W.keepIn K (.ref f10) = true)
  (a11 : PySem.W.nsIn K mainGlobals "parse_deeds" = some (some (.ref f11)))
  (l11 : K.lookup f11 = some ⟨oc11, od11, .func (PySem.W.fnOf "parse_deeds" "parse_deeds" (defArgs (top 20)) (defBody (top 20)) (defScope (top 20)) .none kV11 dc11 pm11 an11 cd11 ct11), sl11⟩)
  (c11 : PySem.W.codeIn K cd11 "parse_deeds" = true)
  (k11 : PySem.W.keepIn K (.ref f11) = true)
  (a12 : PySem.W.nsIn K mainGlobals "_law_told" = some (some (.ref f12)))
  (l12 : K.lookup f12 = some ⟨oc12, od12, .func (PySem.W.fnOf "_law_told" "_law_told" (defArgs (top 29)) (defBody (top 29)) (defScope (top 29)) .none kV12 dc12 pm12 an12 cd12 ct12), sl12⟩)
  (c12 : PySem.W.codeIn K cd12 "_law_told" = true)
  (k12 : PySem.W.keepIn K (.ref f12) = true)
  (a13 : PySem.W.nsIn K mainGlobals "written_deed" = some (some (.ref f13)))
  (l13 : K.lookup f13 = some ⟨oc13, od13, .func (PySem.W.fnOf "written_deed" "written_deed" (defArgs (top 17)) (defBody (top 17)) (defScope (top 17)) .none kV13 dc13 pm13 an13 cd13 ct13), sl13⟩)
  (c13 : PySem.W.codeIn K cd13 "written_deed" = true)
  (k13 : PySem.W.keepIn K (.ref f13) = true)
  (a14 : PySem.W.nsIn K mainGlobals "format_deeds" = some (some (.ref f14)))
  (l14 : K.lookup f14 = some ⟨oc14, od14, .func (PySem.W.fnOf "format_deeds" "format_deeds" (defArgs (top 19)) (defBody (top 19)) (defScope (top 19)) .none kV14 dc14 pm14 an14 cd14 ct14), sl14⟩)
  (c14 : PySem.W.codeIn K cd14 "format_deeds" = true)
  (k14 : PySem.W.keepIn K (.ref f14) = true)
  (a15 : PySem.W.nsIn K mainGlobals "_law_refused" = some (some (.ref f15)))
  (l15 : K.lookup f15 = some ⟨oc15, od15, .func (PySem.W.fnOf "_law_refused" "_law_refused" (defArgs (top 28)) (defBody (top 28)) (defScope (top 28)) .none kV15 dc15 pm15 an15 cd15 ct15), sl15⟩)
  (c15 : PySem.W.codeIn K cd15 "_law_refused" = true)
  (k15 : PySem.W.keepIn K (.ref f15) = true)
  (a16 : PySem.W.nsIn K mainGlobals "_law_line" = some (some (.ref f16)))
  (l16 : K.lookup f16 = some ⟨oc16, od16, .func (PySem.W.fnOf "_law_line" "_law_line" (defArgs (top 27)) (defBody (top 27)) (defScope (top 27)) .none kV16 dc16 pm16 an16 cd16 ct16), sl16⟩)
  (c16 : PySem.W.codeIn K cd16 "_law_line" = true)
  (k16 : PySem.W.keepIn K (.ref f16) = true)
  (a17 : PySem.W.nsIn K mainGlobals "law" = some (some (.ref f17)))
  (l17 : K.lookup f17 = some ⟨oc17, od17, .func (PySem.W.fnOf "law" "law" (defArgs (top 30)) (defBody (top 30)) (defScope (top 30)) .none kV17 dc17 pm17 an17 cd17 ct17), sl17⟩)
  (c17 : PySem.W.codeIn K cd17 "law" = true)
  (k17 : PySem.W.keepIn K (.ref f17) = true)
  (z_all : PySem.W.nsIn K mainGlobals "all" = some none)
  (z_bool : PySem.W.nsIn K mainGlobals "bool" = some none)
  (z_enumerate : PySem.W.nsIn K mainGlobals "enumerate" = some none)
  (z_int : PySem.W.nsIn K mainGlobals "int" = some none)
  (z_isinstance : PySem.W.nsIn K mainGlobals "isinstance" = some none)
  (z_len : PySem.W.nsIn K mainGlobals "len" = some none)
  (z_list : PySem.W.nsIn K mainGlobals "list" = some none)
  (z_max : PySem.W.nsIn K mainGlobals "max" = some none)
  (z_min : PySem.W.nsIn K mainGlobals "min" = some none)
  (z_range : PySem.W.nsIn K mainGlobals "range" = some none)
  (z_repr : PySem.W.nsIn K mainGlobals "repr" = some none)
  (z_str : PySem.W.nsIn K mainGlobals "str" = some none)
  (z_tuple : PySem.W.nsIn K mainGlobals "tuple" = some none)
  (v_DIGITS : PySem.W.nsIn K mainGlobals "DIGITS" = some (some (.str "0123456789" t_DIGITS)))
  (v_LETTERS : PySem.W.nsIn K mainGlobals "LETTERS" = some (some (.str "abcdefghijklmnopqrstuvwxyz" t_LETTERS)))
  (v_MOST_DIGITS : PySem.W.nsIn K mainGlobals "MOST_DIGITS" = some (some (.int 60 t_MOST_DIGITS)))
  (v_MOST_LETTERS : PySem.W.nsIn K mainGlobals "MOST_LETTERS" = some (some (.int 8 t_MOST_LETTERS)))
  (ka_SIZES : PySem.W.nsIn K mainGlobals "SIZES" = some (some (.ref ad_SIZES)))
  (kl_SIZES : K.lookup ad_SIZES = some ⟨.type "dict", none, .dict #[⟨PyData.keyHash w.params "parent", .str "parent" t_SIZES0, .int 2 u_SIZES0⟩, ⟨PyData.keyHash w.params "look", .str "look" t_SIZES1, .int 3 u_SIZES1⟩, ⟨PyData.keyHash w.params "ask", .str "ask" t_SIZES2, .int 4 u_SIZES2⟩] ep_SIZES, #[]⟩)
  (ks_SIZES : (ad_SIZES == sysModules) = false)
  (gY0 : PySem.W.nsIn K mainGlobals "MoveError" = some (some (.ref A0)))
  (gY1 : PySem.W.nsIn K mainGlobals "InvalidDeeds" = some (some (.ref A1)))
  (gY2 : PySem.W.nsIn K mainGlobals "ParseError" = some (some (.ref A2)))
  (xC1 : K.lookup A1 = some (excClassObj nm1 q1 A1 N1 bs1 bm1 true sn1 sub1 ab1 col1 dd1 m01 m11 m21 m31 m51 "ValueError.__new__"))
  (rv1 : PySem.HandSPX.refsVE bm1 = true)
  (sa1 : PySem.W.findIn K (.ref A1) "__setattr__" = some (some (.builtin "object.__setattr__")))
  (ga1 : PySem.W.findIn K (.ref A1) "__getattribute__" = some (some (.builtin "BaseException.__getattribute__")))
  (gg1 : PySem.W.findIn K (.ref A1) "__getattr__" = some none)
  (nf1 : PySem.W.findIn K (.ref A1) "value" = some none)
  (ac1 : PySem.W.findIn K (.ref A1) "__class__" = some (some (.builtin "object.__class__")))
  (ic1 : PySem.W.findIn K (.ref A1) "__init__" = some (some (.ref fI1)))
  (tc1 : PySem.W.typeIn K (.ref fI1) = some (.type "function"))
  (kc1 : PySem.W.keepIn K (.ref A1) = true)
  (ex1 : PySem.W.subIn K (.ref A1) (.type "BaseException") = some true)
  (ty1 : PySem.W.typeIn K (.ref A1) = some (.type "type"))
  (hd1 : PySem.W.hasDictIn K A1 = true)
  (mo1 : PySem.W.mroIn K A1 (.type "object") = some true)
  (su1 : PySem.W.ks_superIn K A1 A1 "__init__" = some (some (.builtin "ValueError.__init__")))
  (sv1 : PySem.W.subIn K (.ref A1) (.type "ValueError") = some true)
  (se1 : PySem.W.mroIn K A1 (.ref A1) = some true)
  (li1 : K.lookup fI1 = some ⟨ocI1, odI1, .func (PySem.W.ksFn "__init__" "InvalidDeeds.__init__" (defArgs (inClass (top 2) 0)) (defBody (inClass (top 2) 0)) (defScope (inClass (top 2) 0)) .none .none docI1 pmI1 anI1 (.ref cda1) ctI1 cc1), slI1⟩)
  (ci1 : PySem.W.codeIn K (.ref cda1) "InvalidDeeds.__init__" = true)
  (lc1 : K.lookup cda1 = some ⟨ccl1, cdd1, .fields vs1, ccs1⟩)
  (vf1 : vs1[2]? = some (.str fil1 tf1))
  (fe1 : ((PySem.Challenge.pw_movednames_k62_texts_of_deeds.main.file : Str) == fil1) = true)
  (lx1 : K.lookup cc1 = some ⟨cl1, cld1, .cell (some (.ref A1)), csl1⟩)
  (xC2 : K.lookup A2 = some (excClassObj nm2 q2 A2 N2 bs2 bm2 true sn2 sub2 ab2 col2 dd2 m02 m12 m22 m32 m52 "ValueError.__new__"))
  (rv2 : PySem.HandSPX.refsVE bm2 = true)
  (sa2 : PySem.W.findIn K (.ref A2) "__setattr__" = some (some (.builtin "object.__setattr__")))
  (ga2 : PySem.W.findIn K (.ref A2) "__getattribute__" = some (some (.builtin "BaseException.__getattribute__")))
  (gg2 : PySem.W.findIn K (.ref A2) "__getattr__" = some none)
  (nf2 : PySem.W.findIn K (.ref A2) "line" = some none)
  (ac2 : PySem.W.findIn K (.ref A2) "__class__" = some (some (.builtin "object.__class__")))
  (ic2 : PySem.W.findIn K (.ref A2) "__init__" = some (some (.ref fI2)))
  (tc2 : PySem.W.typeIn K (.ref fI2) = some (.type "function"))
  (kc2 : PySem.W.keepIn K (.ref A2) = true)
  (ex2 : PySem.W.subIn K (.ref A2) (.type "BaseException") = some true)
  (ty2 : PySem.W.typeIn K (.ref A2) = some (.type "type"))
  (hd2 : PySem.W.hasDictIn K A2 = true)
  (mo2 : PySem.W.mroIn K A2 (.type "object") = some true)
  (su2 : PySem.W.ks_superIn K A2 A2 "__init__" = some (some (.builtin "ValueError.__init__")))
  (sv2 : PySem.W.subIn K (.ref A2) (.type "ValueError") = some true)
  (se2 : PySem.W.mroIn K A2 (.ref A2) = some true)
  (li2 : K.lookup fI2 = some ⟨ocI2, odI2, .func (PySem.W.ksFn "__init__" "ParseError.__init__" (defArgs (inClass (top 3) 0)) (defBody (inClass (top 3) 0)) (defScope (inClass (top 3) 0)) .none .none docI2 pmI2 anI2 (.ref cda2) ctI2 cc2), slI2⟩)
  (ci2 : PySem.W.codeIn K (.ref cda2) "ParseError.__init__" = true)
  (lc2 : K.lookup cda2 = some ⟨ccl2, cdd2, .fields vs2, ccs2⟩)
  (vf2 : vs2[2]? = some (.str fil2 tf2))
  (fe2 : ((PySem.Challenge.pw_movednames_k62_texts_of_deeds.main.file : Str) == fil2) = true)
  (lx2 : K.lookup cc2 = some ⟨cl2, cld2, .cell (some (.ref A2)), csl2⟩)
  (nsu : PySem.W.nsIn K mainGlobals "super" = some none)
  (ti : PySem.W.nsIn K cStatics "thirdparty.any" = some none)
  (gn : PySem.W.specialIn K (.builtin "object.__class__") "__get__" = some (some (.builtin "getset_descriptor.__get__")))
  (gt : PySem.W.takesIn K (.builtin "object.__class__") = some true)
  (s_1_1 : PySem.W.subIn K (.ref A1) (.ref A1) = some true)
  (s_2_1 : PySem.W.subIn K (.ref A2) (.ref A1) = some false)
  (s_1_2 : PySem.W.subIn K (.ref A1) (.ref A2) = some false)
  (s_2_2 : PySem.W.subIn K (.ref A2) (.ref A2) = some true)
  (kt_1_MoveError : PySem.W.kitOne K (.ref A1) (.ref A0) = some true)
  (kt_2_MoveError : PySem.W.kitOne K (.ref A2) (.ref A0) = some true)
  : ∃ (fd : FuncData) (C : Ct), C.K = K ∧ (∀ (s : Shared) (u : Value), BindsTo s fd ⟨[u], []⟩ [("_law_script", u)]) ∧ ∀ base : Heap, K.In base → base.Ns mainGlobals mg → FnG PySem.Challenge.pw_movednames_k62_texts_of_deeds w C mg base 7 fa fd ["_law_script"] m_law := by
  have hfe : fa = f17 := Value.ref.inj (Option.some.inj (hfa.symm.trans (PySem.W.mg_of X G a17)))
  have F0 := fun_mk (st := top 22) l0 c0 k0
  have B0 := F0.binds (ps := ["_law_script", "_law_k"]) fun _ _ _ _ _ _ us hl => match us, hl with | [_, _], _ => rfl
  have F1 := fun_mk (st := top 23) l1 c1 k1
  have B1 := F1.binds (ps := ["_law_stream_here", "_law_count"]) fun _ _ _ _ _ _ us hl => match us, hl with | [_, _], _ => rfl
  have F2 := fun_mk (st := top 24) l2 c2 k2
  have B2 := F2.binds (ps := ["_law_stream_here", "_law_items"]) fun _ _ _ _ _ _ us hl => match us, hl with | [_, _], _ => rfl
  have F3 := fun_mk (st := top 25) l3 c3 k3
  have B3 := F3.binds (ps := ["_law_stream_here", "_law_count"]) fun _ _ _ _ _ _ us hl => match us, hl with | [_, _], _ => rfl
  have F4 := fun_mk (st := top 26) l4 c4 k4
  have B4 := F4.binds (ps := ["_law_stream_here", "_law_names"]) fun _ _ _ _ _ _ us hl => match us, hl with | [_, _], _ => rfl
  have F5 := fun_mk (st := top 8) l5 c5 k5
  have B5 := F5.binds (ps := ["value"]) fun _ _ _ _ _ _ us hl => match us, hl with | [_], _ => rfl
  have F6 := fun_mk (st := top 7) l6 c6 k6
  have B6 := F6.binds (ps := ["value"]) fun _ _ _ _ _ _ us hl => match us, hl with | [_], _ => rfl
  have F7 := fun_mk (st := top 11) l7 c7 k7
  have B7 := F7.binds (ps := ["value"]) fun _ _ _ _ _ _ us hl => match us, hl with | [_], _ => rfl
  have F8 := fun_mk (st := top 15) l8 c8 k8
  have B8 := F8.binds (ps := ["word"]) fun _ _ _ _ _ _ us hl => match us, hl with | [_], _ => rfl
  have F9 := fun_mk (st := top 16) l9 c9 k9
  have B9 := F9.binds (ps := ["word"]) fun _ _ _ _ _ _ us hl => match us, hl with | [_], _ => rfl
  have F10 := fun_mk (st := top 18) l10 c10 k10
  have B10 := F10.binds (ps := ["line"]) fun _ _ _ _ _ _ us hl => match us, hl with | [_], _ => rfl
  have F11 := fun_mk (st := top 20) l11 c11 k11
  have B11 := F11.binds (ps := ["text"]) fun _ _ _ _ _ _ us hl => match us, hl with | [_], _ => rfl
  have F12 := fun_mk (st := top 29) l12 c12 k12
  have B12 := F12.binds (ps := ["_law_text"]) fun _ _ _ _ _ _ us hl => match us, hl with | [_], _ => rfl
  have F13 := fun_mk (st := top 17) l13 c13 k13
  have B13 := F13.binds (ps := ["deed"]) fun _ _ _ _ _ _ us hl => match us, hl with | [_], _ => rfl
  have F14 := fun_mk (st := top 19) l14 c14 k14
  have B14 := F14.binds (ps := ["deeds"]) fun _ _ _ _ _ _ us hl => match us, hl with | [_], _ => rfl
  have F15 := fun_mk (st := top 28) l15 c15 k15
  have B15 := F15.binds (ps := ["_law_thing"]) fun _ _ _ _ _ _ us hl => match us, hl with | [_], _ => rfl
  have F16 := fun_mk (st := top 27) l16 c16 k16
  have B16 := F16.binds (ps := ["_law_deed_here"]) fun _ _ _ _ _ _ us hl => match us, hl with | [_], _ => rfl
  have F17 := fun_mk (st := top 30) l17 c17 k17
  have B17 := F17.binds (ps := ["_law_script"]) fun _ _ _ _ _ _ us hl => match us, hl with | [_], _ => rfl
  let C : Ct := ⟨K, fun i => match i with | 0 => A0 | 1 => A1 | 2 => A2 | _ => 0, none⟩
  let fa0 : Nat → Addr := fun i => match i with | 0 => f0 | 1 => f1 | 2 => f2 | 3 => f3 | 4 => f4 | 5 => f5 | 6 => f6 | 7 => f7 | 8 => f8 | 9 => f9 | 10 => f10 | 11 => f11 | 12 => f12 | 13 => f13 | 14 => f14 | 15 => f15 | 16 => f16 | 17 => f17 | _ => 0
  let fi0 : Nat → Addr := fun i => match i with | 1 => fI1 | 2 => fI2 | _ => 0
  let fd0 : Nat → FuncData := fun i => match i with | 0 => PySem.W.fnOf "_law_stream" "_law_stream" (defArgs (top 22)) (defBody (top 22)) (defScope (top 22)) .none kV0 dc0 pm0 an0 cd0 ct0 | 1 => PySem.W.fnOf "_law_draw" "_law_draw" (defArgs (top 23)) (defBody (top 23)) (defScope (top 23)) .none kV1 dc1 pm1 an1 cd1 ct1 | 2 => PySem.W.fnOf "_law_choose" "_law_choose" (defArgs (top 24)) (defBody (top 24)) (defScope (top 24)) .none kV2 dc2 pm2 an2 cd2 ct2 | 3 => PySem.W.fnOf "_law_words" "_law_words" (defArgs (top 25)) (defBody (top 25)) (defScope (top 25)) .none kV3 dc3 pm3 an3 cd3 ct3 | 4 => PySem.W.fnOf "_law_deed" "_law_deed" (defArgs (top 26)) (defBody (top 26)) (defScope (top 26)) .none kV4 dc4 pm4 an4 cd4 ct4 | 5 => PySem.W.fnOf "is_word" "is_word" (defArgs (top 8)) (defBody (top 8)) (defScope (top 8)) .none kV5 dc5 pm5 an5 cd5 ct5 | 6 => PySem.W.fnOf "is_integer" "is_integer" (defArgs (top 7)) (defBody (top 7)) (defScope (top 7)) .none kV6 dc6 pm6 an6 cd6 ct6 | 7 => PySem.W.fnOf "is_deed" "is_deed" (defArgs (top 11)) (defBody (top 11)) (defScope (top 11)) .none kV7 dc7 pm7 an7 cd7 ct7 | 8 => PySem.W.fnOf "integer_of" "integer_of" (defArgs (top 15)) (defBody (top 15)) (defScope (top 15)) .none kV8 dc8 pm8 an8 cd8 ct8 | 9 => PySem.W.fnOf "name_of" "name_of" (defArgs (top 16)) (defBody (top 16)) (defScope (top 16)) .none kV9 dc9 pm9 an9 cd9 ct9 | 10 => PySem.W.fnOf "deed_of" "deed_of" (defArgs (top 18)) (defBody (top 18)) (defScope (top 18)) .none kV10 dc10 pm10 an10 cd10 ct10 | 11 => PySem.W.fnOf "parse_deeds" "parse_deeds" (defArgs (top 20)) (defBody (top 20)) (defScope (top 20)) .none kV11 dc11 pm11 an11 cd11 ct11 | 12 => PySem.W.fnOf "_law_told" "_law_told" (defArgs (top 29)) (defBody (top 29)) (defScope (top 29)) .none kV12 dc12 pm12 an12 cd12 ct12 | 13 => PySem.W.fnOf "written_deed" "written_deed" (defArgs (top 17)) (defBody (top 17)) (defScope (top 17)) .none kV13 dc13 pm13 an13 cd13 ct13 | 14 => PySem.W.fnOf "format_deeds" "format_deeds" (defArgs (top 19)) (defBody (top 19)) (defScope (top 19)) .none kV14 dc14 pm14 an14 cd14 ct14 | 15 => PySem.W.fnOf "_law_refused" "_law_refused" (defArgs (top 28)) (defBody (top 28)) (defScope (top 28)) .none kV15 dc15 pm15 an15 cd15 ct15 | 16 => PySem.W.fnOf "_law_line" "_law_line" (defArgs (top 27)) (defBody (top 27)) (defScope (top 27)) .none kV16 dc16 pm16 an16 cd16 ct16 | 17 => PySem.W.fnOf "law" "law" (defArgs (top 30)) (defBody (top 30)) (defScope (top 30)) .none kV17 dc17 pm17 an17 cd17 ct17 | _ => PySem.W.fnOf "" "" (defArgs (top 0)) (defBody (top 0)) (defScope (top 0)) .none .none .none .none none .none .none
  have T : Txt w C mg fa0 fi0 fd0 :=
    { ex := rfl,
      n_all := PySem.W.mg_none_of X G z_all,
      n_bool := PySem.W.mg_none_of X G z_bool,
      n_enumerate := PySem.W.mg_none_of X G z_enumerate,
      n_int := PySem.W.mg_none_of X G z_int,
      n_isinstance := PySem.W.mg_none_of X G z_isinstance,
      n_len := PySem.W.mg_none_of X G z_len,
      n_list := PySem.W.mg_none_of X G z_list,
      n_max := PySem.W.mg_none_of X G z_max,
      n_min := PySem.W.mg_none_of X G z_min,
      n_range := PySem.W.mg_none_of X G z_range,
      n_repr := PySem.W.mg_none_of X G z_repr,
      n_str := PySem.W.mg_none_of X G z_str,
      n_tuple := PySem.W.mg_none_of X G z_tuple,
      c_DIGITS := ⟨_, PySem.W.mg_of X G v_DIGITS, kv_str⟩,
      c_LETTERS := ⟨_, PySem.W.mg_of X G v_LETTERS, kv_str⟩,
      c_MOST_DIGITS := ⟨_, PySem.W.mg_of X G v_MOST_DIGITS, kv_int⟩,
      c_MOST_LETTERS := ⟨_, PySem.W.mg_of X G v_MOST_LETTERS, kv_int⟩,
      d_SIZES := ⟨_, PySem.W.mg_of X G ka_SIZES, ⟨_, _, ⟨kl_SIZES, ⟨⟨"parent", _, rfl, rfl⟩, ⟨⟨"look", _, rfl, rfl⟩, ⟨⟨"ask", _, rfl, rfl⟩, trivial⟩⟩⟩, ks_SIZES⟩, (.cons (v := .int 2) rfl ⟨_, rfl⟩ (fun _ _ => rfl) (.cons (v := .int 3) rfl ⟨_, rfl⟩ (fun _ _ => rfl) (.cons (v := .int 4) rfl ⟨_, rfl⟩ (fun _ _ => rfl) .nil)))⟩⟩,
      g__law_stream := PySem.W.mg_of X G a0,
      k__law_stream := k0,
      f__law_stream := F0,
      b__law_stream := B0,
      g__law_draw := PySem.W.mg_of X G a1,
      k__law_draw := k1,
      f__law_draw := F1,
      b__law_draw := B1,
      g__law_choose := PySem.W.mg_of X G a2,
      k__law_choose := k2,
      f__law_choose := F2,
      b__law_choose := B2,
      g__law_words := PySem.W.mg_of X G a3,
      k__law_words := k3,
      f__law_words := F3,
      b__law_words := B3,
      g__law_deed := PySem.W.mg_of X G a4,
      k__law_deed := k4,
      f__law_deed := F4,
      b__law_deed := B4,
      g_is_word := PySem.W.mg_of X G a5,
      k_is_word := k5,
      f_is_word := F5,
      b_is_word := B5,
      g_is_integer := PySem.W.mg_of X G a6,
      k_is_integer := k6,
      f_is_integer := F6,
      b_is_integer := B6,
      g_is_deed := PySem.W.mg_of X G a7,
      k_is_deed := k7,
      f_is_deed := F7,
      b_is_deed := B7,
      g_integer_of := PySem.W.mg_of X G a8,
      k_integer_of := k8,
      f_integer_of := F8,
      b_integer_of := B8,
      g_name_of := PySem.W.mg_of X G a9,
      k_name_of := k9,
      f_name_of := F9,
      b_name_of := B9,
      g_deed_of := PySem.W.mg_of X G a10,
      k_deed_of := k10,
      f_deed_of := F10,
      b_deed_of := B10,
      g_parse_deeds := PySem.W.mg_of X G a11,
      k_parse_deeds := k11,
      f_parse_deeds := F11,
      b_parse_deeds := B11,
      g__law_told := PySem.W.mg_of X G a12,
      k__law_told := k12,
      f__law_told := F12,
      b__law_told := B12,
      g_written_deed := PySem.W.mg_of X G a13,
      k_written_deed := k13,
      f_written_deed := F13,
      b_written_deed := B13,
      g_format_deeds := PySem.W.mg_of X G a14,
      k_format_deeds := k14,
      f_format_deeds := F14,
      b_format_deeds := B14,
      g__law_refused := PySem.W.mg_of X G a15,
      k__law_refused := k15,
      f__law_refused := F15,
      b__law_refused := B15,
      g__law_line := PySem.W.mg_of X G a16,
      k__law_line := k16,
      f__law_line := F16,
      b__law_line := B16,
      g_law := PySem.W.mg_of X G a17,
      k_law := k17,
      f_law := F17,
      b_law := B17,
      g_InvalidDeeds := PySem.W.mg_of X G gY1,
      g_MoveError := PySem.W.mg_of X G gY0,
      g_ParseError := PySem.W.mg_of X G gY2,
      e_InvalidDeeds := { gC := PySem.W.mg_of X G gY1, cls := ⟨_, _, _, _, _, _, _, _, _, _, _, _, _, _, _, xC1, rv1⟩, sa := sa1, noN := nf1, iC := ic1, tC := tc1, kC := kc1, exC := ex1, tyC := ty1, su := su1, opq := ti, sv := sv1, se := se1, ms := PySem.W.mg_none_of X G nsu, top := by rfl, fn := ⟨_, _, _, _, _, _, _, _, _, _, _, _, _, _, _, _, _, _, _, _, _, _, _, _, li1, ci1, ⟨_, fun env => rfl⟩, ⟨_, _, _, _, _, _, lc1, vf1, fe1⟩, _, _, _, lx1⟩, k1 := by decide, k2 := by decide, k3 := by decide, k4 := by decide, k5 := by decide, bi := fun _ _ _ _ _ _ _ _ _ _ _ _ => by rfl },
      e_ParseError := { gC := PySem.W.mg_of X G gY2, cls := ⟨_, _, _, _, _, _, _, _, _, _, _, _, _, _, _, xC2, rv2⟩, sa := sa2, noN := nf2, iC := ic2, tC := tc2, kC := kc2, exC := ex2, tyC := ty2, su := su2, opq := ti, sv := sv2, se := se2, ms := PySem.W.mg_none_of X G nsu, top := by rfl, fn := ⟨_, _, _, _, _, _, _, _, _, _, _, _, _, _, _, _, _, _, _, _, _, _, _, _, li2, ci2, ⟨_, fun env => rfl⟩, ⟨_, _, _, _, _, _, lc2, vf2, fe2⟩, _, _, _, lx2⟩, k1 := by decide, k2 := by decide, k3 := by decide, k4 := by decide, k5 := by decide, bi := fun _ _ _ _ _ _ _ _ _ _ _ _ => by rfl },
      mx_InvalidDeeds := ⟨fun j b e => (by
        unfold mt_InvalidDeeds at e
        split at e
        · cases e; exact PySem.W.exm_ref ex1 hd1 ty1 s_1_1
        · cases e; exact PySem.W.exm_ref ex1 hd1 ty1 s_2_1
        · cases e)⟩,
      xf_InvalidDeeds := fun {j} q => (by
        unfold mt_InvalidDeeds at q
        split at q
        · cases q; exact ⟨ga1, gg1, ex1, hd1⟩
        · cases q
        · cases q),
      xn_InvalidDeeds := fun {j} q => (by
        unfold mt_InvalidDeeds at q
        split at q
        · cases q; exact nf1
        · cases q
        · cases q),
      xi_InvalidDeeds := fun {j} q => (by
        unfold mt_InvalidDeeds at q
        split at q
        · cases q; exact ⟨ga1, gg1, ex1, hd1, ac1, gn, gt, mo1⟩
        · cases q
        · cases q),
      mx_ParseError := ⟨fun j b e => (by
        unfold mt_ParseError at e
        split at e
        · cases e; exact PySem.W.exm_ref ex2 hd2 ty2 s_1_2
        · cases e; exact PySem.W.exm_ref ex2 hd2 ty2 s_2_2
        · cases e)⟩,
      xf_ParseError := fun {j} q => (by
        unfold mt_ParseError at q
        split at q
        · cases q
        · cases q; exact ⟨ga2, gg2, ex2, hd2⟩
        · cases q),
      xn_ParseError := fun {j} q => (by
        unfold mt_ParseError at q
        split at q
        · cases q
        · cases q; exact nf2
        · cases q),
      xi_ParseError := fun {j} q => (by
        unfold mt_ParseError at q
        split at q
        · cases q
        · cases q; exact ⟨ga2, gg2, ex2, hd2, ac2, gn, gt, mo2⟩
        · cases q),
      tb_InvalidDeeds_MoveError := ⟨fun j b e => (by
        unfold tb_InvalidDeeds_MoveError at e
        split at e
        · cases e; exact kt_1_MoveError
        · cases e)⟩,
      tb_ParseError_MoveError := ⟨fun j b e => (by
        unfold tb_ParseError_MoveError at e
        split at e
        · cases e; exact kt_2_MoveError
        · cases e)⟩ }
  exact ⟨fd0 17, C, rfl, fun s u => .of_eq rfl, fun base _ _ => by rw [hfe]; exact ok_law (fa := fa0) (fi := fi0) (fd := fd0) T⟩
end Lw
set_option Elab.async false
set_option linter.all false
set_option maxRecDepth 100000
set_option maxHeartbeats 2000000
/-! # Plain tools: mirrors run -/
namespace DL
open PySem L2
/-- a body as a program with an answer -/
def runS (b : SM) (env : LE) : M D := fun s => endFn (b env s)
theorem mFn_run (n : Nat) (b : SM) (ds : List D) : mFn n b ds = runS b (ent n ds) := rfl
section
variable {α : Type} {env : LE} {n : SM} {i : Nat}
theorem endFn_sE (m : LE → M α) (k : α → SM) : (fun s => endFn (sE m k env s)) = (m env >>= fun d => runS (k d) env) := by
  funext s
  unfold sE
  show endFn (match m env s with | .ok d s' => k d env s' | .exc x fs s' => some (.xc x fs env, s') | .stuck => none) = (m env s).bind fun d => runS (k d) env
  cases m env s <;> rfl
theorem seq_sE (m : LE → M α) (k : α → SM) (n : SM) : sSeq (sE m k) n = sE m fun d => sSeq (k d) n := by
  funext env s
  unfold sSeq sE
  cases m env s <;> rfl
theorem runS_sE (m : LE → M α) (k : α → SM) : runS (sE m k) env = (m env >>= fun d => runS (k d) env) := endFn_sE m k
theorem runS_assoc (a b c : SM) : runS (sSeq (sSeq a b) c) env = runS (sSeq a (sSeq b c)) env := by
  funext s
  unfold runS sSeq
  cases a env s with
  | none => rfl
  | some p => obtain ⟨f, s'⟩ := p; cases f <;> rfl
theorem runS_next : runS (sSeq sNext n) env = runS n env := rfl
theorem runS_end : runS sNext env = pure .non := rfl
theorem runS_ret (m : LE → M D) : runS (sRet m) env = m env := by
  unfold sRet
  rw [runS_sE]
  funext s
  show (m env s).bind (fun d s => .ok d s) = m env s
  cases m env s <;> rfl
theorem runS_retS (m : LE → M D) : runS (sSeq (sRet m) n) env = m env := by
  unfold sRet
  rw [seq_sE, runS_sE]
  funext s
  show (m env s).bind (fun d s => .ok d s) = m env s
  cases m env s <;> rfl
theorem runS_set (m : LE → M D) : runS (sSeq (sSet i m) n) env = (m env >>= fun d => runS n (env.set i (some (.val d)))) := by
  unfold sSet
  rw [seq_sE, runS_sE]
  rfl
theorem runS_own (m : LE → M O) : runS (sSeq (sOwn i m) n) env = (m env >>= fun o => runS n (env.set i (some (.own o)))) := by
  unfold sOwn
  rw [seq_sE, runS_sE]
  rfl
theorem runS_expr (m : LE → M D) : runS (sSeq (sExpr m) n) env = (m env >>= fun _ => runS n env) := by
  unfold sExpr
  rw [seq_sE, runS_sE]
  rfl
theorem runS_exprE (m : LE → M D) : runS (sExpr m) env = (m env >>= fun _ => pure .non) := by
  unfold sExpr
  rw [runS_sE]
  rfl
theorem runS_if (t : LE → M Bool) (a b : SM) : runS (sIf t a b) env = (t env >>= fun c => if c = true then runS a env else runS b env) := by
  unfold sIf
  rw [runS_sE]
  congr 1
  funext c
  cases c <;> rfl
theorem runS_ifS (t : LE → M Bool) (a b : SM) : runS (sSeq (sIf t a b) n) env = (t env >>= fun c => if c = true then runS (sSeq a n) env else runS (sSeq b n) env) := by
  unfold sIf
  rw [seq_sE, runS_sE]
  congr 1
  funext c
  cases c <;> rfl
theorem runS_raise (k : Nat) (f : Str) (m : LE → M D) : runS (sSeq (sRaise k f m) n) env = (m env >>= fun d => mRaise (.own k) [(f, d)]) := by
  unfold sRaise
  rw [seq_sE, runS_sE]
  rfl
theorem runS_raiseE (k : Nat) (f : Str) (m : LE → M D) : runS (sRaise k f m) env = (m env >>= fun d => mRaise (.own k) [(f, d)]) := by
  unfold sRaise
  rw [runS_sE]
  rfl
def optE {α β : Type} (o : Option α) (f : α → M β) : M β := match o with
  | some a => f a
  | none => mStuck
theorem runS_asg (m : LE → M D) (g : GM) : runS (sSeq (sAsg m g) n) env = (m env >>= fun d => optE (g d env) fun env' => runS n env') := by
  unfold sAsg
  rw [seq_sE, runS_sE]
  congr 1
  funext d s
  unfold runS sSeq optE
  dsimp only
  cases g d env <;> rfl
theorem runS_par (i j : Nat) (m : LE → M (List D)) : runS (sSeq (sPar i j m) n) env = (m env >>= fun ds => match ds with
    | [d, e] => runS n ((env.set i (some (.val d))).set j (some (.val e)))
    | _ => mStuck) := by
  unfold sPar
  rw [seq_sE, runS_sE]
  congr 1
  funext ds s
  match ds with
  | [] => rfl
  | [_] => rfl
  | [_, _] => rfl
  | _ :: _ :: _ :: _ => rfl
def setIxM (o i d : D) : M Unit := fun s => match setIx o i d s with
  | some s' => .ok () s'
  | none => .stuck
theorem runS_setix (mo mi me : LE → M D) : runS (sSeq (sSetIx mo mi me) n) env = (me env >>= fun d => mo env >>= fun o => mi env >>= fun i => setIxM o i d >>= fun _ => runS n env) := by
  unfold sSetIx
  rw [seq_sE, runS_sE]
  congr 1; funext d
  rw [seq_sE, runS_sE]
  congr 1; funext o
  rw [seq_sE, runS_sE]
  congr 1; funext i s
  unfold runS sSeq setIxM
  rw [bind_def]
  dsimp only
  cases setIx o i d s <;> rfl
theorem runS_frz (m : SM) : runS (sSeq (sFrz i m) n) env = runS (sSeq m n) (frz i env) := rfl
theorem runS_frzE (m : SM) : runS (sFrz i m) env = runS m (frz i env) := rfl
theorem runS_app (m : LE → M D) {ds : List D} (h : env[i]? = some (some (.own (.lst ds)))) : runS (sSeq (sApp i m) n) env = (m env >>= fun d => if szOk ds.length = true then runS n (env.set i (some (.own (.lst (ds ++ [d]))))) else mStuck) := by
  have e : sApp i m env = sE m (fun d env s => if szOk ds.length = true then some (.nx (env.set i (some (.own (.lst (ds ++ [d]))))), s) else none) env := by
    funext s
    unfold sApp
    rw [h]
  funext s
  unfold runS sSeq
  rw [e]
  show endFn (match (sE m _ env s : SR) with | some (.nx env', s') => n env' s' | r => r) = (m env s).bind _
  unfold sE
  cases m env s with
  | ok d s' => cases szOk ds.length <;> rfl
  | exc x fs s' => rfl
  | stuck => rfl
end
/-! ### what holds of a run: from each store of I an answer of P, and a store of I -/
def Tr {α : Type} (I : S → Prop) (m : M α) (P : α → Prop) : Prop := ∀ s, I s → ∃ a s', m s = .ok a s' ∧ P a ∧ I s'
section
variable {α β : Type} {I : S → Prop}
theorem Tr.pure {a : α} {P : α → Prop} (h : P a) : Tr I (Pure.pure a) P := fun s hs => ⟨a, s, rfl, h, hs⟩
theorem Tr.bind {m : M α} {f : α → M β} {P : α → Prop} {Q : β → Prop} (h : Tr I m P) (k : ∀ a, P a → Tr I (f a) Q) : Tr I (m >>= f) Q := fun s hs => by
  obtain ⟨a, s', e, p, hs'⟩ := h s hs
  obtain ⟨b, s2, e2, q, hs2⟩ := k a p s' hs'
  exact ⟨b, s2, by rw [bind_def, e]; exact e2, q, hs2⟩
theorem Tr.imp {m : M α} {P Q : α → Prop} (h : Tr I m P) (k : ∀ a, P a → Q a) : Tr I m Q := fun s hs => by
  obtain ⟨a, s', e, p, hs'⟩ := h s hs
  exact ⟨a, s', e, k a p, hs'⟩
theorem Tr.ite {c : Bool} {m n : M α} {P : α → Prop} (h : c = true → Tr I m P) (k : c = false → Tr I n P) : Tr I (if c = true then m else n) P := by
  cases c with
  | true => exact h rfl
  | false => exact k rfl
theorem Tr.guard {c : Bool} {P : Unit → Prop} (h : c = true) (p : P ()) : Tr I (guardM c) P := by
  subst h
  exact Tr.pure p
theorem Tr.opt {o : Option α} {a : α} {P : α → Prop} (h : o = some a) (p : P a) : Tr I (optM o) P := by
  subst h
  exact Tr.pure p
end
end DL
set_option Elab.async false
set_option linter.all false
set_option maxRecDepth 100000
set_option maxHeartbeats 2000000
/-! # Plain tools: operators on data -/
namespace DL
open PySem L2
section
variable {α : Type} {i j : Int} {a b : Str}
theorem oInt_int : oInt (.int i) = pure (.int i) := rfl
theorem oInt_bl {b : Bool} : oInt (.bl b) = pure (.int (if b then 1 else 0)) := rfl
theorem oSub_int : oSub (.int i) (.int j) = pure (.int (i - j)) := rfl
theorem oAdd_int : oAdd (.int i) (.int j) = pure (.int (i + j)) := rfl
theorem oMul_int : oMul (.int i) (.int j) = (guardM (mulOk i j) >>= fun _ => pure (.int (i * j))) := rfl
theorem oMod_int : oMod (.int i) (.int j) = (guardM (decide (0 < j)) >>= fun _ => pure (.int (i % j))) := rfl
theorem oDiv_int : oDiv (.int i) (.int j) = (guardM (divOk i j) >>= fun _ => pure (.int (i / j))) := rfl
theorem oPow_int : oPow (.int i) (.int j) = (guardM (powOk i j) >>= fun _ => pure (.int (i ^ j.toNat))) := rfl
theorem oNeg_int : oNeg (.int i) = pure (.int (-i)) := rfl
theorem oGt_int : oGt (.int i) (.int j) = pure (.bl (decide (j < i))) := rfl
theorem oGe_int : oGe (.int i) (.int j) = pure (.bl (decide (j ≤ i))) := rfl
theorem oLe_int : oLe (.int i) (.int j) = pure (.bl (decide (i ≤ j))) := rfl
theorem oLt_int : oLt (.int i) (.int j) = pure (.bl (decide (i < j))) := rfl
theorem oMax2_int : oMax2 (.int i) (.int j) = pure (.int (if j > i then j else i)) := rfl
theorem oMin2_int : oMin2 (.int i) (.int j) = pure (.int (if j < i then j else i)) := rfl
theorem asB_bl {b : Bool} : asB (.bl b) = pure b := rfl
theorem guard_true {c : Bool} (h : c = true) {f : Unit → M α} : (guardM c >>= f) = f () := by subst h; rfl
theorem guard_t {f : Unit → M α} : (guardM true >>= f) = f () := rfl
theorem opt_some {β : Type} {x : β} {f : β → M α} : (optM (some x) >>= f) = f x := rfl
theorem optM_some {β : Type} {x : β} : (optM (some x) : M β) = pure x := rfl
theorem if_t {m n : M α} : (if true = true then m else n) = m := if_pos rfl
theorem if_f {m n : M α} : (if false = true then m else n) = n := if_neg (by decide)
/-- places in a list of a cell -/
theorem oIx_loc {s : S} {n : Nat} {ds : List D} {d : D} {f : D → M α} (hs : s[n]? = some (some (.lst ds))) (h : atI ds i = some d) : (oIx (.loc n) (.int i) >>= f) s = f d s := by
  have e : (rdL (.loc n)) s = .ok ds s := by
    show (match s[n]? with | some (some (.lst ds)) => R.ok ds s | _ => .stuck) = _
    rw [hs]
  show (((rdL (.loc n)) s).bind fun ds => optM (atI ds i)).bind f = f d s
  rw [e]
  show ((optM (atI ds i) : M D) s).bind f = f d s
  rw [h]
  rfl
theorem setIx_loc {s : S} {n k : Nat} {ds : List D} {d : D} {f : Unit → M α} (hs : s[n]? = some (some (.lst ds))) (h : ixN ds.length i = some k) : (setIxM (.loc n) (.int i) d >>= f) s = f () (s.set n (some (.lst (ds.set k d)))) := by
  have e : setIx (.loc n) (.int i) d s = some (s.set n (some (.lst (ds.set k d)))) := by
    show (match s[n]? with | some (some (.lst ds)) => (ixN ds.length i).map fun j => s.set n (some (.lst (ds.set j d))) | _ => none) = _
    rw [hs]
    show (ixN ds.length i).map _ = _
    rw [h]
    rfl
  show (match setIx (.loc n) (.int i) d s with | some s' => R.ok () s' | none => .stuck).bind f = _
  rw [e]
  rfl
theorem oIx_lst {ds : List D} : oIx (.lst ds) (.int i) = optM (atI ds i) := rfl
theorem oIx_tup {ds : List D} : oIx (.tup ds) (.int i) = optM (atI ds i) := rfl
theorem ixN_nat {n k : Nat} (h : k < n) : ixN n (k : Int) = some k := by
  unfold ixN
  rw [if_pos (Int.natCast_nonneg k), if_pos (by omega)]
  rfl
theorem atI_nat {β : Type} {l : List β} {k : Nat} {x : β} (h : l[k]? = some x) : atI l (k : Int) = some x := by
  unfold atI
  rw [ixN_nat (List.getElem?_eq_some_iff.mp h).1]
  exact h
theorem atI_lt {β : Type} {l : List β} {i : Int} (h0 : 0 ≤ i) (h1 : i < l.length) : ∃ x, atI l i = some x ∧ x ∈ l := by
  obtain ⟨k, rfl⟩ := Int.eq_ofNat_of_zero_le h0
  have hk : k < l.length := by omega
  exact ⟨l[k], atI_nat (List.getElem?_eq_getElem hk), List.getElem_mem hk⟩
theorem set_at {s : S} {n : Nat} {x y : Option O} (h : s[n]? = some x) : (s.set n y)[n]? = some y := List.getElem?_set_self (List.getElem?_eq_some_iff.mp h).1
end
end DL
set_option Elab.async false
set_option linter.all false
set_option maxRecDepth 100000
set_option maxHeartbeats 2000000
/-! # Plain tools: comprehensions, loops -/
namespace DL
open PySem L2
section
variable {I : S → Prop} {g : GM} {t : LE → M Bool} {e : LE → M D} {env : LE}
theorem Tr.noX {α : Type} {m : M α} {P : α → Prop} (h : Tr I m P) : Tr I (noX m) P := fun s hs => by
  obtain ⟨a, s', q, p, i⟩ := h s hs
  exact ⟨a, s', by unfold DL.noX; rw [q], p, i⟩
theorem noX_pure {α : Type} {a : α} : (noX (pure a : M α)) = pure a := rfl
/-- each turn gives an item of P -/
theorem Tr.lc {P : D → Prop} : ∀ (ds acc : List D), (∀ d ∈ ds, ∃ env1, g d env = some env1 ∧ Tr I (e env1) P) → acc.length + ds.length ≤ 1000000 →
    Tr I (lcM g tTrue e env ds acc) (fun r => r.length = acc.length + ds.length ∧ ∀ x ∈ r, x ∈ acc ∨ P x)
  | [], acc, _, _ => Tr.pure ⟨rfl, fun x hx => .inl hx⟩
  | d :: ds, acc, h, hz => by
    obtain ⟨env1, e1, h1⟩ := h d (by simp)
    have hz' : acc.length + (ds.length + 1) ≤ 1000000 := by simpa using hz
    show Tr I (match g d env with | none => mStuck | some env1 => tTrue env1 >>= fun b => if b = true then e env1 >>= fun y => guardM (szOk acc.length) >>= fun _ => lcM g tTrue e env ds (acc ++ [y]) else lcM g tTrue e env ds acc) _
    rw [e1]
    show Tr I (e env1 >>= fun y => guardM (szOk acc.length) >>= fun _ => lcM g tTrue e env ds (acc ++ [y])) _
    refine Tr.bind h1 fun y hy => ?_
    refine Tr.bind (Tr.guard (P := fun _ => True) (decide_eq_true (by omega)) trivial) fun _ _ => ?_
    refine (Tr.lc ds (acc ++ [y]) (fun d' hd' => h d' (List.mem_cons_of_mem _ hd')) (by simp; omega)).imp fun r hr => ?_
    obtain ⟨r1, r2⟩ := hr
    refine ⟨by rw [r1]; simp; omega, fun x hx => ?_⟩
    rcases r2 x hx with q | q
    · rcases List.mem_append.mp q with q | q
      · exact .inl q
      · have : x = y := by simpa using q
        subst this
        exact .inr hy
    · exact .inr q
/-- a comprehension that is a function of the items -/
theorem lcM_pure {E : D → LE} {p : D → Bool} {f : D → D} : ∀ (ds acc : List D), (∀ d ∈ ds, g d env = some (E d) ∧ t (E d) = pure (p d) ∧ (p d = true → e (E d) = pure (f d))) → acc.length + ds.length ≤ 1000000 →
    lcM g t e env ds acc = pure (acc ++ (ds.filter p).map f)
  | [], acc, _, _ => by simp only [lcM, List.filter_nil, List.map_nil, List.append_nil]
  | d :: ds, acc, h, hz => by
    obtain ⟨e1, e2, e3⟩ := h d (by simp)
    have hz' : acc.length + (ds.length + 1) ≤ 1000000 := by simpa using hz
    have ih := fun acc' hz => lcM_pure (E := E) (p := p) (f := f) ds acc' (fun d' hd' => h d' (List.mem_cons_of_mem _ hd')) hz
    show (match g d env with | none => mStuck | some env1 => t env1 >>= fun b => if b = true then e env1 >>= fun y => guardM (szOk acc.length) >>= fun _ => lcM g t e env ds (acc ++ [y]) else lcM g t e env ds acc) = _
    rw [e1]
    show (t (E d) >>= fun b => if b = true then e (E d) >>= fun y => guardM (szOk acc.length) >>= fun _ => lcM g t e env ds (acc ++ [y]) else lcM g t e env ds acc) = _
    rw [e2, bind_pure']
    cases hp : p d with
    | true =>
      rw [if_t, e3 hp, bind_pure', guard_true (show szOk acc.length = true from decide_eq_true (by omega)), ih _ (by simp; omega), List.filter_cons, hp]
      simp
    | false =>
      rw [if_f, ih _ (by omega), List.filter_cons, hp]
      simp
/-! ### for, in a body -/
/-- the rest behind a loop -/
def loopR (g : GM) (b n : SM) : List D → LE → M D
  | ds, env => runS (sSeq (forM' g b ds) n) env
theorem runS_for {mi : LE → M (List D)} {b n : SM} : runS (sSeq (sFor mi g b) n) env = (mi env >>= fun ds => loopR g b n ds env) := by
  unfold sFor
  rw [seq_sE, runS_sE]
  rfl
theorem runS_forE {mi : LE → M (List D)} {b : SM} : runS (sFor mi g b) env = (mi env >>= fun ds => runS (forM' g b ds) env) := by
  unfold sFor
  rw [runS_sE]
theorem loop_nil {b n : SM} : loopR g b n [] env = runS n env := rfl
/-- a turn that ends as it should, with the slots env' -/
theorem loop_turn {b n : SM} {d : D} {ds : List D} {env1 env' : LE} {s s' : S} (hg : g d env = some env1) (hb : b env1 s = some (.nx env', s')) : loopR g b n (d :: ds) env s = loopR g b n ds env' s' := by
  show endFn (match (match g d env with | none => none | some env1 => match b env1 s with | some (.nx e, s') => forM' g b ds e s' | some (.ct e, s') => forM' g b ds e s' | some (.bk e, s') => some (.nx e, s') | r => r) with | some (.nx env', s') => n env' s' | r => r) = _
  rw [hg]
  show endFn (match (match b env1 s with | some (.nx e, s') => forM' g b ds e s' | some (.ct e, s') => forM' g b ds e s' | some (.bk e, s') => some (.nx e, s') | r => r) with | some (.nx env', s') => n env' s' | r => r) = _
  rw [hb]
  rfl
/-- a turn that answers -/
theorem loop_ret {b n : SM} {d x : D} {ds : List D} {env1 : LE} {s s' : S} (hg : g d env = some env1) (hb : b env1 s = some (.rt x, s')) : loopR g b n (d :: ds) env s = .ok x s' := by
  show endFn (match (match g d env with | none => none | some env1 => match b env1 s with | some (.nx e, s') => forM' g b ds e s' | some (.ct e, s') => forM' g b ds e s' | some (.bk e, s') => some (.nx e, s') | r => r) with | some (.nx env', s') => n env' s' | r => r) = _
  rw [hg]
  show endFn (match (match b env1 s with | some (.nx e, s') => forM' g b ds e s' | some (.ct e, s') => forM' g b ds e s' | some (.bk e, s') => some (.nx e, s') | r => r) with | some (.nx env', s') => n env' s' | r => r) = _
  rw [hb]
  rfl
/-- a turn that raises -/
theorem loop_exc {b n : SM} {d : D} {ds : List D} {env1 env' : LE} {s s' : S} {k : XC} {fs : List (Str × D)} (hg : g d env = some env1) (hb : b env1 s = some (.xc k fs env', s')) : loopR g b n (d :: ds) env s = .exc k fs s' := by
  show endFn (match (match g d env with | none => none | some env1 => match b env1 s with | some (.nx e, s') => forM' g b ds e s' | some (.ct e, s') => forM' g b ds e s' | some (.bk e, s') => some (.nx e, s') | r => r) with | some (.nx env', s') => n env' s' | r => r) = _
  rw [hg]
  show endFn (match (match b env1 s with | some (.nx e, s') => forM' g b ds e s' | some (.ct e, s') => forM' g b ds e s' | some (.bk e, s') => some (.nx e, s') | r => r) with | some (.nx env', s') => n env' s' | r => r) = _
  rw [hb]
  rfl
end
end DL
set_option Elab.async false
set_option linter.all false
set_option maxRecDepth 100000
set_option maxHeartbeats 2000000
/-! # Plain tools: what holds behind a body -/
namespace DL
open PySem L2
/-- the body goes on to its next, and there Q holds -/
def Wp (b : SM) (env : LE) (s : S) (Q : LE → S → Prop) : Prop := ∃ env' s', b env s = some (.nx env', s') ∧ Q env' s'
section
variable {a b n : SM} {env : LE} {s s' : S} {Q R : LE → S → Prop} {i j : Nat}
theorem Wp.imp (h : Wp a env s R) (k : ∀ e t, R e t → Q e t) : Wp a env s Q := by
  obtain ⟨e, t, q, r⟩ := h
  exact ⟨e, t, q, k e t r⟩
theorem Wp.next (h : Q env s) : Wp sNext env s Q := ⟨env, s, rfl, h⟩
theorem Wp.seq (h : Wp a env s fun e t => Wp b e t Q) : Wp (sSeq a b) env s Q := by
  obtain ⟨e, t, q, e2, t2, q2, k⟩ := h
  refine ⟨e2, t2, ?_, k⟩
  unfold sSeq
  rw [q]
  exact q2
theorem Wp.sE {α : Type} {m : LE → M α} {k : α → SM} {x : α} (h : m env s = .ok x s') (q : Wp (k x) env s' Q) : Wp (DL.sE m k) env s Q := by
  obtain ⟨e, t, q1, q2⟩ := q
  refine ⟨e, t, ?_, q2⟩
  unfold DL.sE
  rw [h]
  exact q1
theorem Wp.set {m : LE → M D} {d : D} (h : m env s = .ok d s') (q : Q (env.set i (some (.val d))) s') : Wp (sSet i m) env s Q := Wp.sE h ⟨_, _, rfl, q⟩
theorem Wp.own {m : LE → M O} {d : O} (h : m env s = .ok d s') (q : Q (env.set i (some (.own d))) s') : Wp (sOwn i m) env s Q := Wp.sE h ⟨_, _, rfl, q⟩
theorem Wp.expr {m : LE → M D} {d : D} (h : m env s = .ok d s') (q : Q env s') : Wp (sExpr m) env s Q := Wp.sE h ⟨_, _, rfl, q⟩
theorem Wp.if_t {t : LE → M Bool} (h : t env s = .ok true s') (q : Wp a env s' Q) : Wp (sIf t a b) env s Q := Wp.sE h q
theorem Wp.if_f {t : LE → M Bool} (h : t env s = .ok false s') (q : Wp b env s' Q) : Wp (sIf t a b) env s Q := Wp.sE h q
/-- an if that is not gone into -/
theorem Wp.pass {t : LE → M Bool} (h : t env s = .ok false s') (q : Q env s') : Wp (sIf t a sNext) env s Q := Wp.sE h (Wp.next q)
theorem Wp.frz {m : SM} (q : Wp m (DL.frz i env) s Q) : Wp (sFrz i m) env s Q := q
theorem Wp.par {m : LE → M (List D)} {d e : D} (h : m env s = .ok [d, e] s') (q : Q ((env.set i (some (.val d))).set j (some (.val e))) s') : Wp (sPar i j m) env s Q := Wp.sE h ⟨_, _, rfl, q⟩
theorem Wp.for {mi : LE → M (List D)} {g : GM} {ds : List D} (h : mi env s = .ok ds s') (q : Wp (forM' g b ds) env s' Q) : Wp (sFor mi g b) env s Q := Wp.sE h q
theorem Wp.nil {g : GM} (h : Q env s) : Wp (forM' g b []) env s Q := ⟨env, s, rfl, h⟩
theorem Wp.cons {g : GM} {d : D} {ds : List D} {env1 : LE} (hg : g d env = some env1) (h : Wp b env1 s fun e t => Wp (forM' g b ds) e t Q) : Wp (forM' g b (d :: ds)) env s Q := by
  obtain ⟨e, t, q, e2, t2, q2, k⟩ := h
  refine ⟨e2, t2, ?_, k⟩
  show (match g d env with | none => none | some env1 => match b env1 s with | some (.nx e, s') => forM' g b ds e s' | some (.ct e, s') => forM' g b ds e s' | some (.bk e, s') => some (.nx e, s') | r => r) = _
  rw [hg]
  show (match b env1 s with | some (.nx e, s') => forM' g b ds e s' | some (.ct e, s') => forM' g b ds e s' | some (.bk e, s') => some (.nx e, s') | r => r) = _
  rw [q]
  exact q2
/-- a loop by what holds ahead of each turn -/
theorem Wp.each {g : GM} {I : LE → S → Prop} : ∀ (ds : List D) {env : LE} {s : S}, I env s → (∀ d ∈ ds, ∀ e t, I e t → ∃ e1, g d e = some e1 ∧ Wp b e1 t I) → (∀ e t, I e t → Q e t) → Wp (forM' g b ds) env s Q
  | [], _, _, h, _, k => Wp.nil (k _ _ h)
  | d :: ds, _, _, h, f, k => by
    obtain ⟨e1, hg, w⟩ := f d (by simp) _ _ h
    exact Wp.cons hg (w.imp fun e t he => Wp.each ds he (fun d' hd' => f d' (List.mem_cons_of_mem _ hd')) k)
/-- a body behind another one -/
theorem run_wp {d : D} (h : Wp b env s fun e t => ∃ s', runS n e t = .ok d s') : ∃ s', runS (sSeq b n) env s = .ok d s' := by
  obtain ⟨e, t, q, s', r⟩ := h
  refine ⟨s', ?_⟩
  unfold runS sSeq
  rw [q]
  exact r
theorem M.bind_ok {α β : Type} {m : M α} {f : α → M β} {x : α} (h : m s = .ok x s') : (m >>= f) s = f x s' := by
  rw [bind_def, h]
  rfl
theorem Tr.at {α : Type} {I : S → Prop} {m : M α} {P : α → Prop} (h : Tr I m P) (hs : I s) : ∃ x s', m s = .ok x s' ∧ P x ∧ I s' := h s hs
end
/-! ### repr of lists of small things -/
/-- small data: what its repr has is bounded -/
def niceP (p : PyData) : Bool := p.leavesShort 20 && (p.showable && (decide (p.depth ≤ 30) && (decide (p.weight ≤ 200) && (!p.hasDict && SeqAt.shaped p))))
def D.nice (d : D) : Bool := match d.py with
  | some p => niceP p
  | none => false
theorem nice_py {d : D} (h : d.nice = true) : ∃ p, d.py = some p ∧ niceP p = true := by
  unfold D.nice at h
  cases e : d.py with
  | none => rw [e] at h; cases h
  | some p => rw [e] at h; exact ⟨p, rfl, h⟩
theorem pyL_nice : ∀ {ds : List D}, (∀ d ∈ ds, d.nice = true) → ∃ ps, pyL ds = some ps ∧ ps.length = ds.length ∧ ∀ p ∈ ps, niceP p = true
  | [], _ => ⟨[], rfl, rfl, by simp⟩
  | d :: r, h => by
    obtain ⟨p, e, k⟩ := nice_py (h d (by simp))
    obtain ⟨ps, e2, l, k2⟩ := pyL_nice (ds := r) fun x hx => h x (List.mem_cons_of_mem _ hx)
    refine ⟨p :: ps, by simp only [pyL, e, e2], by simp [l], fun x hx => ?_⟩
    rcases List.mem_cons.mp hx with rfl | hx
    · exact k
    · exact k2 x hx
structure NiceL (ps : List PyData) (n : Nat) : Prop where
  ls : PyData.leavesShortAll 20 ps = true
  sh : PyData.showableAll ps = true
  dp : PyData.depthAll ps ≤ 30
  wt : PyData.weightAll ps ≤ n * 200 + n
  hd : PyData.hasDictAll ps = false
theorem niceL : ∀ {ps : List PyData}, (∀ p ∈ ps, niceP p = true) → NiceL ps ps.length
  | [], _ => ⟨rfl, rfl, by simp [PyData.depthAll], by simp [PyData.weightAll], rfl⟩
  | p :: r, h => by
    have k := h p (by simp)
    have ih := niceL (ps := r) fun x hx => h x (List.mem_cons_of_mem _ hx)
    unfold niceP at k
    simp only [Bool.and_eq_true, decide_eq_true_eq, Bool.not_eq_true'] at k
    obtain ⟨k1, k2, k3, k4, k5, k6⟩ := k
    have w1 := ih.wt
    refine ⟨by simp [PyData.leavesShortAll, k1, ih.ls], by simp [PyData.showableAll, k2, ih.sh], ?_, ?_, by simp [PyData.hasDictAll, k5, ih.hd]⟩
    · have := ih.dp
      simp only [PyData.depthAll]
      omega
    · simp only [PyData.weightAll, List.length_cons]
      omega
theorem showOk_list {ps : List PyData} (h : ∀ p ∈ ps, niceP p = true) (hl : ps.length ≤ 100) : showOk (.list ps) = true := by
  have k := niceL h
  have w1 := k.wt
  have s1 := PyData.shown_le 20 (by decide) (.list ps) (by simp only [PyData.leavesShort]; exact k.ls)
  simp only [PyData.weight] at s1
  have d1 := k.dp
  unfold showOk
  simp only [PyData.showable, PyData.hasDict, k.sh, k.hd, PyData.depth, Bool.true_and, Bool.not_false, Bool.and_true]
  rw [Bool.and_eq_true]
  refine ⟨decide_eq_true (by omega), decide_eq_true ?_⟩
  omega
theorem showOk_tuple {ps : List PyData} (h : ∀ p ∈ ps, niceP p = true) (hl : ps.length ≤ 100) : showOk (.tuple ps) = true := by
  have k := niceL h
  have w1 := k.wt
  have s1 := PyData.shown_le 20 (by decide) (.tuple ps) (by simp only [PyData.leavesShort]; exact k.ls)
  simp only [PyData.weight] at s1
  have d1 := k.dp
  unfold showOk
  simp only [PyData.showable, PyData.hasDict, k.sh, k.hd, PyData.depth, Bool.true_and, Bool.not_false, Bool.and_true]
  rw [Bool.and_eq_true]
  refine ⟨decide_eq_true (by omega), decide_eq_true ?_⟩
  omega
theorem repr_lst {ds : List D} (h : ∀ d ∈ ds, d.nice = true) (hl : ds.length ≤ 100) : ∃ ps, pyL ds = some ps ∧ oRepr (.lst ds) = pure (.str (PyData.shown (.list ps))) := by
  obtain ⟨ps, e, l, k⟩ := pyL_nice h
  refine ⟨ps, e, ?_⟩
  show ((optM ((pyL ds).map PyData.list) : M PyData) >>= fun p => guardM (showOk p) >>= fun _ => (pure (D.str p.shown) : M D)) = _
  rw [e]
  show (guardM (showOk (.list ps)) >>= fun _ => (pure (D.str (PyData.shown (.list ps))) : M D)) = _
  rw [guard_true (showOk_list k (by omega))]
theorem repr_tup {ds : List D} (h : ∀ d ∈ ds, d.nice = true) (hl : ds.length ≤ 100) : ∃ ps, pyL ds = some ps ∧ oRepr (.tup ds) = pure (.str (PyData.shown (.tuple ps))) := by
  obtain ⟨ps, e, l, k⟩ := pyL_nice h
  refine ⟨ps, e, ?_⟩
  show ((optM ((pyL ds).map PyData.tuple) : M PyData) >>= fun p => guardM (showOk p) >>= fun _ => (pure (D.str p.shown) : M D)) = _
  rw [e]
  show (guardM (showOk (.tuple ps)) >>= fun _ => (pure (D.str (PyData.shown (.tuple ps))) : M D)) = _
  rw [guard_true (showOk_tuple k (by omega))]
/-- the same of a list in a cell -/
theorem repr_loc {ds : List D} {n : Nat} {s : S} (hs : s[n]? = some (some (.lst ds))) (h : ∀ d ∈ ds, d.nice = true) (hl : ds.length ≤ 100) : ∃ ps, pyL ds = some ps ∧ oRepr (.loc n) s = .ok (.str (PyData.shown (.list ps))) s := by
  obtain ⟨ps, e, l, k⟩ := pyL_nice h
  refine ⟨ps, e, ?_⟩
  show ((pyM (.loc n) >>= fun p => guardM (showOk p) >>= fun _ => (pure (D.str p.shown) : M D)) : M D) s = _
  have e1 : pyM (.loc n) s = .ok (.list ps) s := by
    show (match s[n]? with
      | some (some (.lst ds)) => (optM ((pyL ds).map .list) : M PyData) s
      | some (some (.dct kvs)) => (optM ((leafK kvs).map .dict) : M PyData) s
      | _ => .stuck) = _
    rw [hs]
    show (optM ((pyL ds).map .list) : M PyData) s = _
    rw [e]
    rfl
  rw [M.bind_ok e1]
  show (guardM (showOk (.list ps)) >>= fun _ => (pure (D.str (PyData.shown (.list ps))) : M D)) s = _
  rw [guard_true (showOk_list k (by omega))]
  rfl
end DL
set_option Elab.async false
set_option linter.all false
set_option maxRecDepth 100000
set_option maxHeartbeats 2000000
/-! # Plain tools: an expression at a store, rule by rule -/
namespace DL
open PySem L2
section
variable {env : LE} {s s1 s2 s3 s4 : S} {x y z d : D} {b c : Bool}
theorem ok_pure {α : Type} {m : LE → M α} {a : α} (h : m env = pure a) : m env s = .ok a s := by rw [h]; rfl
theorem M.bind_to {α β : Type} {m : M α} {f : α → M β} {a : α} {r : R β} (h : m s = .ok a s1) (k : f a s1 = r) : (m >>= f) s = r := by rw [bind_def, h]; exact k
theorem tOf_ok {m : LE → M D} (h : m env s = .ok (.bl b) s1) : tOf m env s = .ok b s1 := M.bind_to h rfl
theorem tNot_ok {t : LE → M Bool} (h : t env s = .ok b s1) : tNotM t env s = .ok (!b) s1 := M.bind_to h rfl
theorem tOr_ok {t u : LE → M Bool} (h : t env s = .ok false s1) (k : u env s1 = .ok b s2) : tOrM t u env s = .ok b s2 := M.bind_to h k
theorem tOr_t {t u : LE → M Bool} (h : t env s = .ok true s1) : tOrM t u env s = .ok true s1 := M.bind_to h rfl
theorem tAnd_ok {t u : LE → M Bool} (h : t env s = .ok true s1) (k : u env s1 = .ok b s2) : tAndM t u env s = .ok b s2 := M.bind_to h k
theorem tAnd_f {t u : LE → M Bool} (h : t env s = .ok false s1) : tAndM t u env s = .ok false s1 := M.bind_to h rfl
theorem eVar_ok {i : Nat} (h : env[i]? = some (some (.val d))) : eVar i env s = .ok d s := by unfold eVar; rw [h]; rfl
theorem eBin_ok {f : D → D → M D} {ma mb : LE → M D} (h : ma env s = .ok x s1) (k : mb env s1 = .ok y s2) (r : f x y s2 = .ok z s3) : eBin f ma mb env s = .ok z s3 := M.bind_to h (M.bind_to k r)
theorem eB1_ok {f : D → M D} {ma : LE → M D} (h : ma env s = .ok x s1) (r : f x s1 = .ok z s2) : eB (on1 f) (aCons ma aNil) env s = .ok z s2 := M.bind_to (M.bind_to h (M.bind_to (a := ([] : List D)) (s1 := s1) rfl rfl)) r
theorem eB2_ok {f : D → D → M D} {ma mb : LE → M D} (h : ma env s = .ok x s1) (k : mb env s1 = .ok y s2) (r : f x y s2 = .ok z s3) : eB (on2 f) (aCons ma (aCons mb aNil)) env s = .ok z s3 := M.bind_to (M.bind_to h (M.bind_to (M.bind_to k (M.bind_to (a := ([] : List D)) (s1 := s2) rfl rfl)) rfl)) r
theorem aNil_ok : aNil env s = .ok [] s := rfl
theorem aCons_ok {m : LE → M D} {n : LE → M (List D)} {ds : List D} (h : m env s = .ok x s1) (k : n env s1 = .ok ds s2) : aCons m n env s = .ok (x :: ds) s2 := M.bind_to h (M.bind_to k rfl)
theorem eCall_ok {n : Nat} {m : List D → M D} {dds ds : List D} {ma : LE → M (List D)} (h : ma env s = .ok ds s1) (hn : (ds ++ dds).length = n) (r : m (ds ++ dds) s1 = .ok z s2) : eCall n m dds ma env s = .ok z s2 := by
  refine M.bind_to h (M.bind_to (a := ()) (s1 := s1) ?_ r)
  rw [decide_eq_true hn]
  rfl
theorem eCall1_ok {m : List D → M D} {ma : LE → M D} (h : ma env s = .ok x s1) (r : m [x] s1 = .ok z s2) : eCall 1 m [] (aCons ma aNil) env s = .ok z s2 := eCall_ok (aCons_ok h aNil_ok) rfl r
theorem eCall2_ok {m : List D → M D} {ma mb : LE → M D} (h : ma env s = .ok x s1) (k : mb env s1 = .ok y s2) (r : m [x, y] s2 = .ok z s3) : eCall 2 m [] (aCons ma (aCons mb aNil)) env s = .ok z s3 := eCall_ok (aCons_ok h (aCons_ok k aNil_ok)) rfl r
theorem eTup_ok {m : LE → M (List D)} {ds : List D} (h : m env s = .ok ds s1) (hl : ds.length ≤ 1000000) : eTup m env s = .ok (.tup ds) s1 := by
  refine M.bind_to h (M.bind_to (a := ()) (s1 := s1) ?_ rfl)
  rw [show szOk ds.length = true from decide_eq_true hl]
  rfl
theorem nLst_ok {m : LE → M (List D)} {ds : List D} (h : m env s = .ok ds s1) (hl : ds.length ≤ 1000000) : nLst m env s = .ok (.lst ds) s1 := by
  refine M.bind_to h (M.bind_to (a := ()) (s1 := s1) ?_ rfl)
  rw [show szOk ds.length = true from decide_eq_true hl]
  rfl
theorem eFrz_ok {m : LE → M O} {ds : List D} (h : m env s = .ok (.lst ds) s1) : eFrz m env s = .ok (.lst ds) s1 := M.bind_to h rfl
theorem eIf_t {t : LE → M Bool} {m n : LE → M D} (h : t env s = .ok true s1) (k : m env s1 = .ok z s2) : eIf t m n env s = .ok z s2 := M.bind_to h k
theorem eIf_f {t : LE → M Bool} {m n : LE → M D} (h : t env s = .ok false s1) (k : n env s1 = .ok z s2) : eIf t m n env s = .ok z s2 := M.bind_to h k
theorem eSl_ok {m : LE → M D} {l h : LE → M (Option Int)} {lo hi : Option Int} (a : m env s = .ok x s1) (k : l env s1 = .ok lo s2) (j : h env s2 = .ok hi s3) (r : oSl x lo hi s3 = .ok z s4) : eSl m l h env s = .ok z s4 := M.bind_to a (M.bind_to k (M.bind_to j r))
theorem pSome_ok {m : LE → M D} {i : Int} (h : m env s = .ok (.int i) s1) : pSome m env s = .ok (some i) s1 := M.bind_to h rfl
theorem pNone_ok : pNone env s = .ok none s := rfl
theorem run_ok {α : Type} {m : M α} {a : α} (h : m = pure a) : m s = .ok a s := by rw [h]; rfl
/-! ### lists of data, mapped -/
theorem lcM_map {α : Type} {g : GM} {t : LE → M Bool} {e : LE → M D} (F G : α → D) : ∀ (xs : List α) (acc : List D), (∀ a ∈ xs, ∃ E, g (F a) env = some E ∧ t E = pure true ∧ e E = pure (G a)) → acc.length + xs.length ≤ 1000000 →
    lcM g t e env (xs.map F) acc = pure (acc ++ xs.map G)
  | [], acc, _, _ => by simp only [lcM, List.map_nil, List.append_nil]
  | a :: r, acc, h, hz => by
    obtain ⟨E, e1, e2, e3⟩ := h a (by simp)
    have hz' : acc.length + (r.length + 1) ≤ 1000000 := hz
    have ih := lcM_map F G r (acc ++ [G a]) (fun b hb => h b (List.mem_cons_of_mem _ hb)) (by rw [List.length_append, List.length_singleton]; omega)
    show (match g (F a) env with | none => mStuck | some env1 => t env1 >>= fun b => if b = true then e env1 >>= fun y => guardM (szOk acc.length) >>= fun _ => lcM g t e env (r.map F) (acc ++ [y]) else lcM g t e env (r.map F) acc) = _
    rw [e1]
    show (t E >>= fun b => if b = true then e E >>= fun y => guardM (szOk acc.length) >>= fun _ => lcM g t e env (r.map F) (acc ++ [y]) else lcM g t e env (r.map F) acc) = _
    rw [e2, bind_pure', if_t, e3, bind_pure', guard_true (show szOk acc.length = true from decide_eq_true (by omega)), ih]
    simp
theorem nLc_map {α : Type} {mi : LE → M (List D)} {g : GM} {e : LE → M D} {own : List Nat} (F G : α → D) (xs : List α) (hi : mi env = pure (xs.map F)) (h : ∀ a ∈ xs, ∃ E, g (F a) (wipeE env own) = some E ∧ e E = pure (G a)) (hl : xs.length ≤ 1000000) : nLc mi g tTrue e own env = pure (.lst (xs.map G)) := by
  unfold nLc
  rw [hi, bind_pure', lcM_map F G xs [] (fun a ha => by obtain ⟨E, h1, h2⟩ := h a ha; exact ⟨E, h1, rfl, h2⟩) (by show 0 + xs.length ≤ _; omega), noX_pure, bind_pure', List.nil_append]
/-- texts joined -/
theorem eJoin_ok {a : Str} {ys : List Str} {ma mb : LE → M D} (h : ma env = pure (.str a)) (k : mb env = pure (.lst (ys.map .str))) (hl : (ys.map (·.length)).sum + ys.length * a.length ≤ 16777216) (hs : strsOf (ys.map .str) = some ys) : eJoin ma mb env = pure (.str (Txt.join a ys)) := by
  unfold eJoin
  rw [h, bind_pure']
  simp only [strM, bind_pure', k]
  show ((optM (strsOf (ys.map .str)) : M (List Str)) >>= fun ys => guardM (decide ((ys.map (·.length)).sum + ys.length * a.length ≤ 16777216)) >>= fun _ => (pure (D.str (Txt.join a ys)) : M D)) = _
  rw [hs, opt_some, guard_true (decide_eq_true hl)]
end
end DL
set_option Elab.async false
set_option linter.all false
set_option maxRecDepth 100000
set_option maxHeartbeats 2000000
namespace Lw
open PySem L2 DL
/-- the stream: a cell of two ints, not below nought -/
def St (n : Nat) (s : S) : Prop := ∃ a b : Int, 0 ≤ a ∧ 0 ≤ b ∧ s[n]? = some (some (.lst [.int a, .int b]))
theorem mulOk_r {i j : Int} (h : -(2 ^ 64) < j) (k : j < 2 ^ 64) : mulOk i j = true := by
  unfold mulOk
  rw [decide_eq_true h, decide_eq_true k]
  simp
theorem divOk_of {i j : Int} (h : 0 < j) (k : j < 2 ^ 64) : divOk i j = true := by
  unfold divOk
  rw [decide_eq_true h, decide_eq_true k]
  rfl
theorem draw_ok (n : Nat) (c : Int) (hc : 0 < c) (hc2 : c < 2 ^ 64) : Tr (St n) (m__law_draw [.loc n, .int c]) (fun d => ∃ i : Int, d = .int i ∧ 0 ≤ i ∧ i < c) := by
  rintro s ⟨a, b, ha, hb, hs⟩
  have e0 : atI [D.int a, D.int b] 0 = some (.int a) := rfl
  have e1 : atI [D.int a, D.int b] 1 = some (.int b) := rfl
  have k0 : ∀ (x y : D), ixN [x, y].length 0 = some 0 := fun _ _ => rfl
  have k1 : ∀ (x y : D), ixN [x, y].length 1 = some 1 := fun _ _ => rfl
  unfold m__law_draw b__law_draw
  simp only [mFn_run, ent, runS_ifS, runS_assoc, runS_set, runS_setix, runS_retS, runS_ret, runS_next, eVar, eK, eBin, eIx, eB, on1, aCons, aNil, tOf, bind_assoc', bind_pure', List.map, List.length, List.replicate, List.append, List.nil_append, List.cons_append, List.getElem?_cons_zero, List.getElem?_cons_succ, List.set]
  rw [oIx_loc hs e0]
  simp only [oGt_int, asB_bl, bind_pure']
  by_cases h : 0 < a
  · rw [decide_eq_true h, if_t]
    rw [oIx_loc hs e0]
    simp only [oInt_int, oMod_int, bind_pure', bind_assoc', guard_true (decide_eq_true hc)]
    rw [oIx_loc hs e0]
    simp only [oDiv_int, bind_pure', bind_assoc', guard_true (divOk_of hc hc2)]
    rw [setIx_loc hs (k0 _ _)]
    exact ⟨_, _, rfl, ⟨_, rfl, Int.emod_nonneg _ (by omega), Int.emod_lt_of_pos _ hc⟩, a / c, b, Int.ediv_nonneg ha (by omega), hb, set_at hs⟩
  · rw [decide_eq_false h, if_f]
    rw [oIx_loc hs e1]
    simp only [oMul_int, bind_assoc', bind_pure', guard_true (mulOk_r (show -(2 ^ 64) < (39373 : Int) by decide) (by decide)), oAdd_int, oInt_int, oMod_int, guard_true (show decide ((0 : Int) < 2147483647) = true by decide)]
    rw [setIx_loc hs (k1 _ _)]
    have b0 : 0 ≤ (b * 39373 + 7) % 2147483647 := Int.emod_nonneg _ (by decide)
    have b1 : (b * 39373 + 7) % 2147483647 < 2147483647 := Int.emod_lt_of_pos _ (by decide)
    have hs2 := set_at (y := some (O.lst [D.int a, D.int ((b * 39373 + 7) % 2147483647)])) hs
    have e2 : atI [D.int a, D.int ((b * 39373 + 7) % 2147483647)] 1 = some (.int ((b * 39373 + 7) % 2147483647)) := rfl
    show ∃ x s', (oIx (.loc n) (.int 1) >>= _) (s.set n (some (.lst [D.int a, D.int ((b * 39373 + 7) % 2147483647)]))) = R.ok x s' ∧ _
    rw [oIx_loc hs2 e2]
    rw [oIx_loc hs2 e2]
    simp only [oMul_int, bind_assoc', bind_pure', guard_true (mulOk_r (i := (b * 39373 + 7) % 2147483647) (j := (b * 39373 + 7) % 2147483647) (by omega) (by omega)), oInt_int, oMod_int, guard_true (show decide ((0 : Int) < 2147483629) = true by decide), oDiv_int, guard_true (divOk_of (i := _) (show (0 : Int) < 32 by decide) (by decide)), guard_true (decide_eq_true hc)]
    exact ⟨_, _, rfl, ⟨_, rfl, Int.emod_nonneg _ (by omega), Int.emod_lt_of_pos _ hc⟩, a, _, ha, b0, hs2⟩
theorem choose_ok (n : Nat) (ds : List D) (h0 : ds ≠ []) (hl : ds.length < 2 ^ 64) : Tr (St n) (m__law_choose [.loc n, .lst ds]) (fun d => d ∈ ds) := by
  have hp : 0 < ds.length := List.length_pos_iff.mpr h0
  unfold m__law_choose b__law_choose
  simp only [mFn_run, ent, runS_ret, eVar, eBin, eIx, eB, on1, aCons, aNil, eCall, bind_assoc', bind_pure', List.map, List.length, List.replicate, List.append, List.nil_append, List.cons_append, List.getElem?_cons_zero, List.getElem?_cons_succ, List.append_nil]
  refine Tr.bind (P := fun d => d = .int ds.length) (fun s hs => ⟨_, s, rfl, rfl, hs⟩) fun d hd => ?_
  subst hd
  refine Tr.bind (Tr.guard (P := fun _ => True) (by rfl) trivial) fun _ _ => ?_
  refine Tr.bind (draw_ok n ds.length (by omega) (by omega)) fun d hd => ?_
  obtain ⟨i, rfl, h1, h2⟩ := hd
  obtain ⟨x, hx, hm⟩ := atI_lt h1 h2
  rw [oIx_lst]
  exact Tr.opt hx hm
end Lw
set_option Elab.async false
set_option linter.all false
set_option maxRecDepth 100000
set_option maxHeartbeats 2000000
namespace Lw
open PySem L2 DL
abbrev cs (z : Str) : List Nat := z.cps.toList
/-- a word of the law: up to eight small letters -/
def isW (z : Str) : Prop := 1 ≤ (cs z).length ∧ (cs z).length ≤ 8 ∧ ∀ c ∈ cs z, 97 ≤ c ∧ c ≤ 122
def isL (z : Str) : Prop := ∀ c ∈ cs z, 97 ≤ c ∧ c ≤ 122
abbrev abc : Str := "abcdefghijklmnopqrstuvwxyz"
theorem abc_all : (cs abc).all (fun c => decide (97 ≤ c) && decide (c ≤ 122)) = true := by decide +kernel
theorem abc_len : (cs abc).length = 26 := by decide +kernel
theorem abc_mem {c : Nat} (h : c ∈ cs abc) : 97 ≤ c ∧ c ≤ 122 := by
  have := List.all_eq_true.mp abc_all c h
  rw [Bool.and_eq_true] at this
  exact ⟨of_decide_eq_true this.1, of_decide_eq_true this.2⟩
/-- a letter, chosen -/
theorem letter_ok (n : Nat) : Tr (St n) (m__law_choose [.loc n, .str abc]) (fun d => ∃ c : Nat, d = .str ⟨#[c]⟩ ∧ 97 ≤ c ∧ c ≤ 122) := by
  unfold m__law_choose b__law_choose
  simp only [mFn_run, ent, runS_ret, eVar, eBin, eIx, eB, on1, aCons, aNil, eCall, bind_assoc', bind_pure', List.map, List.length, List.replicate, List.append, List.nil_append, List.cons_append, List.getElem?_cons_zero, List.getElem?_cons_succ, List.append_nil]
  refine Tr.bind (P := fun d => d = .int 26) (fun s hs => ⟨_, s, rfl, rfl, hs⟩) fun d hd => ?_
  subst hd
  refine Tr.bind (Tr.guard (P := fun _ => True) (by rfl) trivial) fun _ _ => ?_
  refine Tr.bind (draw_ok n 26 (by decide) (by decide)) fun d hd => ?_
  obtain ⟨i, rfl, h1, h2⟩ := hd
  obtain ⟨x, hx, hm⟩ := atI_lt (l := cs abc) h1 (by rw [abc_len]; exact h2)
  show Tr (St n) (guardM (szOk abc.length) >>= fun _ => optM (atI (cs abc) i) >>= fun c => pure (D.str ⟨#[c]⟩)) _
  refine Tr.bind (Tr.guard (P := fun _ => True) (by rfl) trivial) fun _ _ => ?_
  refine Tr.bind (P := fun c => c ∈ cs abc) (Tr.opt hx hm) fun c hc => ?_
  exact Tr.pure ⟨c, rfl, (abc_mem hc).1, (abc_mem hc).2⟩
theorem strsOf_map : ∀ zs : List Str, strsOf (zs.map .str) = some zs
  | [] => rfl
  | z :: r => by
    show (strsOf (r.map .str)).map (z :: ·) = _
    rw [strsOf_map r]
    rfl
/-- strs of a property, among data -/
theorem strs_of {P : Str → Prop} : ∀ {r : List D}, (∀ x ∈ r, ∃ z, x = .str z ∧ P z) → ∃ zs : List Str, r = zs.map .str ∧ ∀ z ∈ zs, P z
  | [], _ => ⟨[], rfl, by simp⟩
  | x :: r, h => by
    obtain ⟨z, rfl, pz⟩ := h x (by simp)
    obtain ⟨zs, rfl, q⟩ := strs_of (r := r) fun y hy => h y (List.mem_cons_of_mem _ hy)
    exact ⟨z :: zs, rfl, fun y hy => by
      rcases List.mem_cons.mp hy with rfl | hy
      · exact pz
      · exact q y hy⟩
theorem cs_app (a b : Str) : cs (a ++ b) = cs a ++ cs b := by
  show (a.cps ++ b.cps).toList = _
  exact Array.toList_append
theorem joinL_nil : ∀ ps : List (List Nat), TL.joinL [] ps = ps.flatten
  | [] => rfl
  | [p] => by simp [TL.joinL]
  | p :: q :: r => by
    show p ++ ([] ++ TL.joinL [] (q :: r)) = _
    rw [joinL_nil (q :: r), List.nil_append]
    simp
theorem cs_join0 (zs : List Str) : cs (Txt.join "" zs) = (zs.map cs).flatten := by
  rw [TL.join_eq, show cs (Str.join "" zs) = _ from TL.tl_join "" zs]
  exact joinL_nil _
/-- letters joined -/
theorem letters_join : ∀ (zs : List Str), (∀ z ∈ zs, ∃ c : Nat, z = ⟨#[c]⟩ ∧ 97 ≤ c ∧ c ≤ 122) → (zs.map cs).flatten.length = zs.length ∧ ∀ c ∈ (zs.map cs).flatten, 97 ≤ c ∧ c ≤ 122
  | [], _ => ⟨rfl, by simp⟩
  | z :: r, h => by
    obtain ⟨c, rfl, h1, h2⟩ := h _ (List.mem_cons_self ..)
    obtain ⟨i1, i2⟩ := letters_join r fun y hy => h y (List.mem_cons_of_mem _ hy)
    rw [List.map_cons, List.flatten_cons, show cs ⟨#[c]⟩ = [c] from rfl]
    refine ⟨by rw [List.length_append, i1]; simp [Nat.add_comm], fun x hx => ?_⟩
    rcases List.mem_append.mp hx with hx | hx
    · have : x = c := by simpa using hx
      omega
    · exact i2 x hx
theorem len_cs (z : Str) : z.length = (cs z).length := by
  show z.cps.size = _
  exact Array.length_toList.symm
/-- a part of a word: up to three letters -/
def part3 (env : LE) (n : Nat) : Prop := env[0]? = some (some (.val (.loc n))) ∧ env[2]? = some (some (.val (.str abc)))
theorem rg1_ok {n : Nat} {env : LE} (h : env[0]? = some (some (.val (.loc n)))) (k : Int) (hk : 0 < k) (hk2 : k < 100) :
    Tr (St n) (iRg1 (eCall 2 m__law_draw [] (aCons (eVar 0) (aCons (eK (.int k)) aNil))) env) (fun ds => (ds.length : Int) < k) := by
  unfold iRg1 eCall
  simp only [aCons, aNil, eK, bind_assoc', bind_pure']
  have e0 : eVar 0 env = pure (.loc n) := by unfold eVar; rw [h]
  rw [e0]
  simp only [bind_pure', List.append_nil]
  refine Tr.bind (Tr.guard (P := fun _ => True) (by rfl) trivial) fun _ _ => ?_
  refine Tr.bind (draw_ok n k hk (by omega)) fun d hd => ?_
  obtain ⟨i, rfl, h1, h2⟩ := hd
  refine Tr.bind (P := fun j => j = i) (Tr.opt rfl rfl) fun j hj => ?_
  subst hj
  refine Tr.bind (Tr.guard (P := fun _ => True) (by unfold rgOk; rw [decide_eq_true (by omega), decide_eq_true (by omega)] <;> rfl) trivial) fun _ _ => ?_
  refine Tr.pure ?_
  unfold rangeD
  simp
  omega
theorem part_ok {n : Nat} {env : LE} (hl : env.length = 9) (h : part3 env n) :
    Tr (St n) (eJoin (eK (.str "")) (eFrz (nLc (iRg1 (eCall 2 m__law_draw [] (aCons (eVar 0) (aCons (eK (.int 4)) aNil)))) (gN 5) tTrue (eCall 2 m__law_choose [] (aCons (eVar 0) (aCons (eVar 2) aNil))) [5])) env) (fun d => ∃ z : Str, d = .str z ∧ (cs z).length ≤ 3 ∧ isL z) := by
  unfold eJoin eFrz nLc
  simp only [eK, bind_assoc', bind_pure', strM]
  refine Tr.bind (rg1_ok h.1 4 (by decide) (by decide)) fun ds hds => ?_
  refine Tr.bind (Tr.noX (Tr.lc (P := fun d => ∃ z : Str, d = .str z ∧ ∃ c : Nat, z = ⟨#[c]⟩ ∧ 97 ≤ c ∧ c ≤ 122) ds [] (fun d _ => ⟨_, rfl, ?_⟩) (by simp; omega))) fun r hr => ?_
  · have g0 : ∀ x, (((env.set 5 none).set 5 x))[0]? = env[0]? := fun x => by simp
    have g2 : ∀ x, (((env.set 5 none).set 5 x))[2]? = env[2]? := fun x => by simp
    have e0 : ∀ x, eVar 0 ((env.set 5 none).set 5 x) = pure (.loc n) := fun x => by unfold eVar; rw [g0, h.1]
    have e2 : ∀ x, eVar 2 ((env.set 5 none).set 5 x) = pure (.str abc) := fun x => by unfold eVar; rw [g2, h.2]
    unfold eCall wipeE
    simp only [aCons, aNil, bind_assoc', bind_pure', wipeE]
    rw [e0, e2]
    simp only [bind_pure', List.append_nil]
    refine Tr.bind (Tr.guard (P := fun _ => True) (by rfl) trivial) fun _ _ => ?_
    exact (letter_ok n).imp fun d hd => by
      obtain ⟨c, rfl, h1, h2⟩ := hd
      exact ⟨_, rfl, c, rfl, h1, h2⟩
  · obtain ⟨r1, r2⟩ := hr
    obtain ⟨zs, rfl, hz⟩ := strs_of (P := fun z => ∃ c : Nat, z = ⟨#[c]⟩ ∧ 97 ≤ c ∧ c ≤ 122) (r := r) fun x hx => by
      rcases r2 x hx with q | ⟨z, e, q⟩
      · cases q
      · exact ⟨z, e, q⟩
    simp only [bind_pure', O.dat]
    show Tr (St n) (optM (strsOf (zs.map .str)) >>= _) _
    rw [strsOf_map]
    simp only [opt_some]
    obtain ⟨l1, l2⟩ := letters_join zs hz
    have hlen : zs.length ≤ 3 := by
      have : (zs.map D.str).length = ([] : List D).length + ds.length := r1
      simp at this
      omega
    refine Tr.bind (Tr.guard (P := fun _ => True) (decide_eq_true ?_) trivial) fun _ _ => ?_
    · have s1 : (zs.map (·.length)).sum = (zs.map cs).flatten.length := by
        rw [List.length_flatten, List.map_map]
        congr 1
      rw [s1, l1]
      show zs.length + zs.length * 0 ≤ _
      omega
    · refine Tr.pure ⟨_, rfl, ?_, ?_⟩
      · rw [cs_join0, l1]
        exact hlen
      · intro c hc
        rw [cs_join0] at hc
        exact l2 c hc
theorem cs_str (c : Nat) : cs ⟨#[c]⟩ = [c] := rfl
theorem names_ok (n : Nat) : Tr (St n) (m__law_words [.loc n, .int 3]) (fun d => ∃ zs : List Str, d = .lst (zs.map .str) ∧ zs.length = 3 ∧ ∀ z ∈ zs, isW z) := by
  unfold m__law_words b__law_words
  simp only [mFn_run, ent, runS_assoc, runS_set, runS_asg, runS_ret, List.map, List.length, List.replicate, List.append, List.nil_append, List.cons_append]
  show Tr (St n) ((pure (.str abc) : M D) >>= _) _
  rw [bind_pure']
  simp only [List.set]
  -- first, step
  refine Tr.bind (P := fun d => ∃ i j : Int, d = .tup [.int i, .int j]) ?_ fun d hd => ?_
  · unfold eTup eCall
    simp only [aCons, aNil, eK, eVar, eFrz, nLst, bind_assoc', bind_pure', List.getElem?_cons_zero, List.append_nil]
    refine Tr.bind (Tr.guard (P := fun _ => True) (by rfl) trivial) fun _ _ => ?_
    refine Tr.bind (draw_ok n 26 (by decide) (by decide)) fun d hd => ?_
    obtain ⟨i, rfl, _⟩ := hd
    refine Tr.bind (Tr.guard (P := fun _ => True) (by rfl) trivial) fun _ _ => ?_
    simp only [O.dat, bind_pure']
    refine Tr.bind (Tr.guard (P := fun _ => True) (by rfl) trivial) fun _ _ => ?_
    refine Tr.bind (choose_ok n _ (by simp) (by simp)) fun d hd => ?_
    have hj : ∃ j : Int, d = .int j := by
      simp only [List.mem_cons, List.not_mem_nil, or_false] at hd
      rcases hd with rfl | rfl | rfl | rfl | rfl | rfl | rfl | rfl | rfl | rfl | rfl | rfl <;> exact ⟨_, rfl⟩
    obtain ⟨j, rfl⟩ := hj
    refine Tr.bind (Tr.guard (P := fun _ => True) (by rfl) trivial) fun _ _ => ?_
    exact Tr.pure ⟨i, j, rfl⟩
  obtain ⟨i, j, rfl⟩ := hd
  show Tr (St n) (optE (some _) _) _
  simp only [optE, List.set]
  refine Tr.bind (part_ok (by rfl) ⟨rfl, rfl⟩) fun d hd => ?_
  obtain ⟨hd1, rfl, a1, a2⟩ := hd
  try simp only [List.set]
  refine Tr.bind (part_ok (by rfl) ⟨rfl, rfl⟩) fun d hd => ?_
  obtain ⟨tl1, rfl, b1, b2⟩ := hd
  try simp only [List.set]
  unfold eFrz nLc
  simp only [iRg1, eVar, bind_assoc', bind_pure', List.getElem?_cons_zero, List.getElem?_cons_succ, intOf, opt_some]
  refine Tr.bind (Tr.guard (P := fun _ => True) (by rfl) trivial) fun _ _ => ?_
  refine Tr.bind (Tr.noX (Tr.lc (P := fun d => ∃ z : Str, d = .str z ∧ isW z) _ [] (fun d hd => ⟨_, rfl, ?_⟩) (by rw [rangeD]; simp))) fun r hr => ?_
  · unfold rangeD at hd
    obtain ⟨k, hk, rfl⟩ := List.mem_map.mp hd
    have hk3 : k < 3 := by simpa using hk
    simp only [wipeE, List.set]
    unfold eBin
    simp only [eVar, eIx, eBin, eB, on1, aCons, aNil, eK, bind_assoc', bind_pure', List.getElem?_cons_zero, List.getElem?_cons_succ, oMul_int, oAdd_int, oInt_int, oMod_int, guard_true (mulOk_r (i := j) (j := 0 + (k : Int)) (by omega) (by omega)), guard_true (show decide ((0 : Int) < 26) = true by decide)]
    obtain ⟨x, hx, hm⟩ := atI_lt (l := cs abc) (i := (i + j * (0 + (k : Int))) % 26) (Int.emod_nonneg _ (by decide)) (by rw [abc_len]; exact Int.emod_lt_of_pos _ (by decide))
    have hxr := abc_mem hm
    have ox : oIx (.str abc) (.int ((i + j * (0 + (k : Int))) % 26)) = pure (.str ⟨#[x]⟩) := by
      show (guardM (szOk abc.length) >>= fun _ => optM (atI (cs abc) ((i + j * (0 + (k : Int))) % 26)) >>= fun c => pure (D.str ⟨#[c]⟩)) = _
      rw [hx]
      rfl
    rw [ox]
    have l1 : hd1.length ≤ 3 := by rw [len_cs]; exact a1
    have l2 : tl1.length ≤ 3 := by rw [len_cs]; exact b1
    have o1 : oAdd (.str hd1) (.str ⟨#[x]⟩) = pure (.str (hd1 ++ ⟨#[x]⟩)) := by
      show (guardM (szOk (hd1.length + 1)) >>= fun _ => (pure (D.str (hd1 ++ ⟨#[x]⟩)) : M D)) = _
      rw [guard_true (show szOk (hd1.length + 1) = true from decide_eq_true (by omega))]
    have l3 : (hd1 ++ ⟨#[x]⟩ : Str).length = hd1.length + 1 := by rw [len_cs, cs_app, len_cs]; simp
    have o2 : oAdd (.str (hd1 ++ ⟨#[x]⟩)) (.str tl1) = pure (.str (hd1 ++ ⟨#[x]⟩ ++ tl1)) := by
      show (guardM (szOk ((hd1 ++ ⟨#[x]⟩ : Str).length + tl1.length)) >>= fun _ => (pure (D.str (hd1 ++ ⟨#[x]⟩ ++ tl1)) : M D)) = _
      rw [guard_true (show szOk ((hd1 ++ ⟨#[x]⟩ : Str).length + tl1.length) = true from decide_eq_true (by omega))]
    simp only [bind_pure', o1, o2]
    refine Tr.pure ⟨_, rfl, ?_, ?_, ?_⟩
    · rw [cs_app, cs_app, cs_str, List.length_append, List.length_append, List.length_singleton]
      omega
    · rw [cs_app, cs_app, cs_str, List.length_append, List.length_append, List.length_singleton]
      omega
    · intro c hc
      rw [cs_app, cs_app, cs_str] at hc
      rcases List.mem_append.mp hc with hc | hc
      · rcases List.mem_append.mp hc with hc | hc
        · exact a2 c hc
        · have : c = x := by simpa using hc
          omega
      · exact b2 c hc
  · obtain ⟨r1, r2⟩ := hr
    obtain ⟨zs, rfl, hz⟩ := strs_of (P := isW) (r := r) fun x hx => by
      rcases r2 x hx with q | ⟨z, e, q⟩
      · cases q
      · exact ⟨z, e, q⟩
    simp only [bind_pure', O.dat]
    refine Tr.pure ⟨zs, rfl, ?_, hz⟩
    have : (zs.map D.str).length = ([] : List D).length + (rangeD 0 3).length := r1
    rw [rangeD] at this
    simpa using this
end Lw
set_option Elab.async false
set_option linter.all false
set_option maxRecDepth 100000
set_option maxHeartbeats 2000000
namespace Lw
open PySem L2 DL
/-- a deed -/
inductive Dd where
  | par (m : Int) | look (m : Int) (z : Str) | ask (m f : Int) (z : Option Str)
def optD : Option Str → D
  | some z => .str z
  | none => .non
def Dd.d : Dd → D
  | .par m => .tup [.str "parent", .int m]
  | .look m z => .tup [.str "look", .int m, .str z]
  | .ask m f z => .tup [.str "ask", .int m, .int f, optD z]
def okM (m : Int) : Prop := -(10 ^ 13) ≤ m ∧ m ≤ 10 ^ 13
def Dd.ok : Dd → Prop
  | .par m => okM m
  | .look m z => okM m ∧ isW z
  | .ask m f z => okM m ∧ 1 ≤ f ∧ f ≤ 4 ∧ ∀ w, z = some w → isW w
theorem pow_9 : powOk 10 9 = true := by decide +kernel
theorem pow_13 : powOk 10 13 = true := by decide +kernel
theorem deed_ok (n : Nat) (zs : List Str) (h0 : zs ≠ []) (hl : zs.length ≤ 10) (hz : ∀ z ∈ zs, isW z) : Tr (St n) (m__law_deed [.loc n, .lst (zs.map .str)]) (fun d => ∃ e : Dd, d = e.d ∧ e.ok) := by
  unfold m__law_deed b__law_deed
  simp only [mFn_run, ent, runS_assoc, runS_set, runS_ret, List.map, List.length, List.replicate, List.append, List.nil_append, List.cons_append]
  -- the moment
  refine Tr.bind (P := fun d => ∃ m : Int, d = .int m ∧ okM m) ?_ fun d hd => ?_
  · unfold eCall eFrz nLst eNeg
    simp only [aCons, aNil, eK, eVar, eBin, bind_assoc', bind_pure', List.getElem?_cons_zero, List.append_nil, oNeg_int, oPow_int, oSub_int, guard_true pow_9, guard_true pow_13]
    refine Tr.bind (Tr.guard (P := fun _ => True) (by rfl) trivial) fun _ _ => ?_
    refine Tr.bind (draw_ok n _ (by decide) (by decide)) fun d hd => ?_
    obtain ⟨i, rfl, i1, i2⟩ := hd
    refine Tr.bind (Tr.guard (P := fun _ => True) (by rfl) trivial) fun _ _ => ?_
    refine Tr.bind (draw_ok n _ (by decide) (by decide)) fun d hd => ?_
    obtain ⟨j, rfl, j1, j2⟩ := hd
    simp only [oSub_int, bind_pure', O.dat, bind_assoc']
    refine Tr.bind (Tr.guard (P := fun _ => True) (by rfl) trivial) fun _ _ => ?_
    refine Tr.bind (Tr.guard (P := fun _ => True) (by rfl) trivial) fun _ _ => ?_
    refine (choose_ok n _ (by simp) (by simp)).imp fun d hd => ?_
    have e9 : (10 : Int) ^ (9 : Int).toNat = 10 ^ 9 := rfl
    have e13 : (10 : Int) ^ (13 : Int).toNat = 10 ^ 13 := rfl
    rw [e9] at i2
    rw [e13] at j2
    simp only [List.mem_cons, List.not_mem_nil, or_false, e13] at hd
    unfold okM
    rcases hd with rfl | rfl | rfl | rfl | rfl | rfl <;> exact ⟨_, rfl, by omega, by omega⟩
  obtain ⟨m, rfl, hm⟩ := hd
  simp only [List.set]
  -- the name
  refine Tr.bind (P := fun d => ∃ z : Str, d = .str z ∧ isW z) ?_ fun d hd => ?_
  · unfold eCall
    simp only [aCons, aNil, eVar, bind_assoc', bind_pure', List.getElem?_cons_zero, List.getElem?_cons_succ, List.append_nil]
    refine Tr.bind (Tr.guard (P := fun _ => True) (by rfl) trivial) fun _ _ => ?_
    refine (choose_ok n _ (by simpa using h0) (by simp; omega)).imp fun d hd => ?_
    obtain ⟨z, q, rfl⟩ := List.mem_map.mp hd
    exact ⟨z, rfl, hz z q⟩
  obtain ⟨z, rfl, hzw⟩ := hd
  try simp only [List.set]
  -- the front
  refine Tr.bind (P := fun d => ∃ f : Int, d = .int f ∧ 1 ≤ f ∧ f ≤ 4) ?_ fun d hd => ?_
  · unfold eCall eFrz nLst
    simp only [aCons, aNil, eK, eVar, eBin, bind_assoc', bind_pure', List.getElem?_cons_zero, List.append_nil]
    refine Tr.bind (Tr.guard (P := fun _ => True) (by rfl) trivial) fun _ _ => ?_
    refine Tr.bind (draw_ok n _ (by decide) (by decide)) fun d hd => ?_
    obtain ⟨i, rfl, i1, i2⟩ := hd
    simp only [oAdd_int, bind_pure', O.dat, bind_assoc']
    refine Tr.bind (Tr.guard (P := fun _ => True) (by rfl) trivial) fun _ _ => ?_
    refine Tr.bind (Tr.guard (P := fun _ => True) (by rfl) trivial) fun _ _ => ?_
    refine (choose_ok n _ (by simp) (by simp)).imp fun d hd => ?_
    simp only [List.mem_cons, List.not_mem_nil, or_false] at hd
    rcases hd with rfl | rfl | rfl | rfl <;> exact ⟨_, rfl, by omega, by omega⟩
  obtain ⟨f, rfl, hf1, hf2⟩ := hd
  try simp only [List.set]
  -- the deeds, one of them
  unfold eCall eFrz nLst eTup eBin
  simp only [aCons, aNil, eK, eVar, bind_assoc', bind_pure', List.getElem?_cons_zero, List.getElem?_cons_succ, List.append_nil, O.dat]
  repeat refine Tr.bind (Tr.guard (P := fun _ => True) (by rfl) trivial) fun _ _ => ?_
  have oa : oAdd (D.lst [D.tup [D.str "parent", D.int m], D.tup [D.str "look", D.int m, D.str z], D.tup [D.str "ask", D.int m, D.int f, D.str z]]) (D.lst [D.tup [D.str "ask", D.int m, D.int f, D.non]]) =
    pure (.lst [(Dd.par m).d, (Dd.look m z).d, (Dd.ask m f (some z)).d, (Dd.ask m f none).d]) := rfl
  rw [oa, bind_pure']
  refine Tr.bind (Tr.guard (P := fun _ => True) (by rfl) trivial) fun _ _ => ?_
  refine (choose_ok n _ (by simp) (by simp)).imp fun d hd => ?_
  simp only [List.mem_cons, List.not_mem_nil, or_false] at hd
  rcases hd with rfl | rfl | rfl | rfl
  · exact ⟨_, rfl, hm⟩
  · exact ⟨_, rfl, hm, hzw⟩
  · exact ⟨_, rfl, hm, hf1, hf2, fun w q => by cases q; exact hzw⟩
  · exact ⟨_, rfl, hm, hf1, hf2, fun w q => by cases q⟩
/-! ### the words of a deed, its line -/
def optW : Option Str → Str
  | some z => z
  | none => "-"
def Dd.words : Dd → List Str
  | .par m => ["parent", toString m]
  | .look m z => ["look", toString m, z]
  | .ask m f z => ["ask", toString m, toString f, optW z]
def Dd.line (e : Dd) : Str := Txt.join " " e.words
end Lw
set_option Elab.async false
set_option linter.all false
set_option maxRecDepth 100000
set_option maxHeartbeats 2000000
namespace Lw
open PySem L2 DL
/-- the signs of a whole number -/
def sg (m : Int) : List Nat := if m < 0 then 45 :: TL.numL m.natAbs else TL.numL m.natAbs
theorem cs_int (m : Int) : cs (toString m : Str) = sg m := by
  unfold sg
  cases m with
  | ofNat n =>
    rw [if_neg (show ¬ Int.ofNat n < 0 from Int.not_lt.mpr (Int.natCast_nonneg n))]
    exact TL.tl_num n
  | negSucc n =>
    rw [if_pos (Int.negSucc_lt_zero n)]
    have h := TL.tl_num (n + 1)
    show cs (Str.ofString (toString (Int.negSucc n))) = _
    have e : (toString (Int.negSucc n) : String) = "-" ++ toString ((n + 1 : Nat) : Int) := rfl
    rw [e]
    have e2 : ∀ a b : String, cs (Str.ofString (a ++ b)) = cs (Str.ofString a) ++ cs (Str.ofString b) := fun a b => by
      rw [PySem.Str.ofString_eq_toList, PySem.Str.ofString_eq_toList, PySem.Str.ofString_eq_toList]
      simp
    rw [e2]
    show [45] ++ cs (Str.ofString (toString ((n + 1 : Nat) : Int))) = _
    rw [show cs (Str.ofString (toString ((n + 1 : Nat) : Int))) = TL.numL (n + 1) from h]
    rfl
theorem sg_len {m : Int} (h : okM m) : (sg m).length ≤ 15 ∧ 1 ≤ (sg m).length := by
  have h1 : m.natAbs < 10 ^ 14 := by have := h.1; have := h.2; omega
  have h2 := TL.numL_len (k := 14) (by decide) h1
  have h3 : 1 ≤ (TL.numL m.natAbs).length := List.length_pos_iff.mpr (TL.numL_ne _)
  unfold sg
  by_cases q : m < 0
  · rw [if_pos q, List.length_cons]; omega
  · rw [if_neg q]; omega
/-- int(str(m)) -/
theorem int_back {m : Int} (h : okM m) : PySem.intText? (toString m : Str) = some m := by
  cases m with
  | ofNat n =>
    have h1 : n < 10 ^ 14 := by have h2 : ((n : Nat) : Int) ≤ 10 ^ 13 := h.2; omega
    exact TL.int_num (Nat.le_trans (TL.numL_len (k := 14) (by decide) h1) (by decide))
  | negSucc n =>
    have h1 : n + 1 < 10 ^ 14 := by have h2 : -(10 ^ 13) ≤ -(((n : Nat) : Int) + 1) := by have := h.1; rwa [Int.negSucc_eq] at this
                                    omega
    have e := cs_int (Int.negSucc n)
    unfold sg at e
    rw [if_pos (Int.negSucc_lt_zero n)] at e
    have q := PySem.intText_neg (x := (toString (Int.negSucc n) : Str)) (cs := TL.numL (n + 1)) e (TL.numL_digits _) (TL.numL_ne _) (by
      have := (sg_len h).1
      rw [len_cs, cs_int]
      omega)
    rw [q, TL.numL_val]
    rfl
end Lw
set_option Elab.async false
set_option linter.all false
set_option maxRecDepth 100000
set_option maxHeartbeats 2000000
namespace Lw
open PySem L2 DL
def odds : List D := [.non, .tup [], .str "parent", .tup [.str "parent"], .tup [.str "parent", .non], .tup [.str "parent", .bl true], .tup [.str "parent", .int 1, .int 2],
  .tup [.str "look", .int 1], .lst [.str "parent", .int 1],
  .tup [.str "look", .int 1, .non], .tup [.str "look", .int 1, .str "A"], .tup [.str "ask", .int 1, .int 1], .tup [.str "ask", .int 1, .non, .str "a"], .tup [.str "ask", .int 1, .str "a", .int 1],
  .tup [.str "tell", .int 1], .tup [.str "look", .str "a", .int 1], .tup [.int 5, .int 1], .tup [.str "ask", .int 1, .int 1, .str ""]]
def bads : List Str := ["", " ", "parent", "parent ", "parent  1", "parent 01", "parent -0", "parent +1", "parent 1.", "parent x", "look 1",
  "look 1 A", "look 1 -", "look x a", "ask 1 1", "ask 1 a 1", "ask 1 - a", "ask 1 1 a b", "Parent 1", "ask",
  "parent 1 ", " parent 1", "parent\t1", "parent - 1", "parent --1", "look 1 a+b", "ask 1 1 aaaaaaaaa", "-"]
theorem odds_all : (odds.map fun d => m_is_deed [d]) = odds.map fun _ => (pure (.bl false) : M D) := by kernel_rfl
theorem bads_all : (bads.map fun z => m_deed_of [.str z]) = bads.map fun _ => (pure .non : M D) := by kernel_rfl
end Lw
set_option Elab.async false
set_option linter.all false
set_option maxRecDepth 100000
set_option maxHeartbeats 2000000
namespace Lw
open PySem L2 DL
theorem abc_in {c : Nat} (h : 97 ≤ c ∧ c ≤ 122) : decide (c ∈ cs abc) = true := by
  have : (cs abc) = List.range' 97 26 := by decide +kernel
  rw [this]
  refine decide_eq_true ?_
  rw [List.mem_range'_1]
  omega
theorem blsOf_trues : ∀ l : List D, blsOf (l.map fun _ => D.bl true) = some (l.map fun _ => true)
  | [] => rfl
  | x :: r => by
    show (blsOf (r.map fun _ => D.bl true)).map (true :: ·) = _
    rw [blsOf_trues r]
    rfl
theorem all_trues : ∀ l : List D, (l.map fun _ => true).all id = true
  | [] => rfl
  | x :: r => by
    rw [List.map_cons, List.all_cons, all_trues r]
    rfl
theorem is_word_ok {z : Str} (h : isW z) : m_is_word [.str z] = pure (.bl true) := by
  have hl : z.length = (cs z).length := len_cs z
  have g1 : szOk z.length = true := decide_eq_true (by have := h.2.1; omega)
  unfold m_is_word b_is_word
  simp only [mFn_run, ent, runS_ifS, runS_assoc, runS_retS, runS_ret, runS_next, List.map, List.length, List.replicate, List.append, List.nil_append, List.cons_append]
  unfold tOrM tNotM tOf eIsT eChain eB eFrz nLc DL.iItems
  simp only [aCons, aNil, eK, eVar, bind_assoc', bind_pure', List.getElem?_cons_zero, List.getElem?_cons_succ, on1]
  have t1 : oIsT noSub .str (.str z) = pure (.bl true) := rfl
  have t2 : oLen (.str z) = pure (.int z.length) := by
    show (guardM (szOk z.length) >>= fun _ => pure (D.int z.length)) = _
    rw [guard_true g1]
  rw [t1]
  simp only [bind_pure', asB_bl, Bool.not_true, if_f]
  rw [t2]
  simp only [bind_pure', oLe_int, asB_bl]
  rw [decide_eq_true (show (1 : Int) ≤ (z.length : Int) by have := h.1; omega)]
  simp only [if_t, c_MOST_LETTERS, oLe_int, bind_pure', asB_bl]
  rw [decide_eq_true (show (z.length : Int) ≤ 8 by have := h.2.1; omega)]
  simp only [Bool.not_true, if_f, bind_pure', itemsOf]
  rw [lcM_pure (E := fun d => [some (.val (.str z)), some (.val d)]) (p := fun _ => true) (f := fun _ => .bl true)]
  · simp only [noX_pure, bind_pure', O.dat, List.nil_append]
    have e0 : (signs z).filter (fun _ => true) = signs z := List.filter_eq_self.mpr fun _ _ => rfl
    show (oAll (.lst (((signs z).filter fun _ => true).map fun _ => D.bl true)) : M D) = _
    rw [e0]
    show (optM (blsOf ((signs z).map fun _ => D.bl true)) >>= fun bs => pure (D.bl (bs.all id))) = _
    rw [blsOf_trues, opt_some, all_trues]
  · intro d hd
    refine ⟨rfl, rfl, fun _ => ?_⟩
    unfold signs at hd
    obtain ⟨c, hc, rfl⟩ := List.mem_map.mp hd
    show (oIn (.str ⟨#[c]⟩) (.str abc) : M D) = _
    show (pure (.bl (decide (c ∈ cs abc))) : M D) = _
    rw [abc_in (h.2.2 c hc)]
  · have : (signs z).length = (cs z).length := by unfold signs; rw [List.length_map]
    have h8 := h.2.1
    show 0 + (signs z).length ≤ 1000000
    omega
end Lw
set_option Elab.async false
set_option linter.all false
set_option maxRecDepth 100000
set_option maxHeartbeats 2000000
namespace Lw
open PySem L2 DL
theorem ite_bind_t {α : Type} {t : M Bool} {a b : M α} (h : t = pure true) : (t >>= fun c => if c = true then a else b) = a := by subst h; rfl
theorem ite_bind_f {α : Type} {t : M Bool} {a b : M α} (h : t = pure false) : (t >>= fun c => if c = true then a else b) = b := by subst h; rfl
theorem is_deed_par (m : Int) : m_is_deed [.tup [.str "parent", .int m]] = pure (.bl true) := by kernel_rfl
theorem is_deed_look (m : Int) (z : Str) : m_is_deed [.tup [.str "look", .int m, .str z]] = m_is_word [.str z] := by
  unfold m_is_deed b_is_deed
  rw [mFn_run, runS_ifS, ite_bind_f (by kernel_rfl), runS_next, runS_ifS, ite_bind_f (by kernel_rfl), runS_next, runS_ifS, ite_bind_t (by kernel_rfl), runS_retS]
  rfl
theorem is_deed_askN (m f : Int) : m_is_deed [.tup [.str "ask", .int m, .int f, .non]] = pure (.bl true) := by kernel_rfl
theorem is_deed_ask (m f : Int) {z : Str} (h : isW z) : m_is_deed [.tup [.str "ask", .int m, .int f, .str z]] = pure (.bl true) := by
  unfold m_is_deed b_is_deed
  rw [mFn_run, runS_ifS, ite_bind_f (by kernel_rfl), runS_next, runS_ifS, ite_bind_f (by kernel_rfl), runS_next, runS_ifS, ite_bind_f (by kernel_rfl), runS_next, runS_ret]
  show ((m_is_word [.str z] : M D)) = _
  exact is_word_ok h
theorem is_deed_ok {e : Dd} (h : e.ok) : m_is_deed [e.d] = pure (.bl true) := by
  cases e with
  | par m => exact is_deed_par m
  | look m z => exact (is_deed_look m z).trans (is_word_ok h.2)
  | ask m f z =>
    cases z with
    | none => exact is_deed_askN m f
    | some z => exact is_deed_ask m f (h.2.2.2 z rfl)
end Lw
set_option Elab.async false
set_option linter.all false
set_option maxRecDepth 100000
set_option maxHeartbeats 2000000
namespace Lw
open PySem L2 DL
/-- a part's text -/
def strD : D → Str
  | .str z => z
  | .int m => toString m
  | _ => "-"
def okP (d : D) : Prop := d = .non ∨ (∃ z, d = .str z) ∨ ∃ m : Int, d = .int m ∧ m.natAbs.log2 < 1920
def eS : LE → M D := eIf (tOf (eBin oIsN (eVar 1) (eK .non))) (eK (.str "-")) (eB (on1 oStr) (aCons (eVar 1) aNil))
theorem eS_ok {d : D} {env : LE} (h : okP d) (he : env[1]? = some (some (.val d))) : eS env = pure (.str (strD d)) := by
  have e1 : eVar 1 env = pure d := by unfold eVar; rw [he]
  unfold eS eIf tOf eBin eB
  simp only [e1, eK, aCons, aNil, bind_assoc', bind_pure', on1]
  rcases h with rfl | ⟨z, rfl⟩ | ⟨m, rfl, hm⟩
  · rfl
  · rfl
  · show (guardM (decide (m.natAbs.log2 < 1920)) >>= fun _ => pure (D.str (toString m))) = _
    rw [guard_true (decide_eq_true hm)]
    rfl
theorem filter_all (l : List D) : l.filter (fun _ => true) = l := List.filter_eq_self.mpr fun _ _ => rfl
theorem comp_eS {ds : List D} {a : Option SD} (h : ∀ d ∈ ds, okP d) (hl : ds.length ≤ 1000) : lcM (gN 1) tTrue eS (wipeE [a, none] [1]) ds [] = pure ((ds.map strD).map .str) := by
  rw [lcM_pure (E := fun d => [a, some (.val d)]) (p := fun _ => true) (f := fun d => .str (strD d))]
  · rw [filter_all, List.nil_append, List.map_map]
    rfl
  · exact fun d hd => ⟨rfl, rfl, fun _ => eS_ok (h d hd) rfl⟩
  · show 0 + ds.length ≤ 1000000
    omega
theorem line_eq {ds : List D} (h : ∀ d ∈ ds, okP d) (hl : ds.length ≤ 1000) (hb : ((ds.map strD).map (·.length)).sum + ds.length * 1 ≤ 16777216) : m__law_line [.tup ds] = pure (.str (Txt.join " " (ds.map strD))) := by
  unfold m__law_line b__law_line
  rw [mFn_run, runS_ret]
  show ((noX (lcM (gN 1) tTrue eS (wipeE [some (.val (.tup ds)), none] [1]) ds []) >>= fun r => pure (O.lst r)) >>= O.dat >>= fun y => rdS y >>= fun ds => (optM (strsOf ds) : M (List Str)) >>= fun ys => guardM (decide ((ys.map (·.length)).sum + ys.length * (" " : Str).length ≤ 16777216)) >>= fun _ => pure (D.str (Txt.join " " ys))) = _
  rw [comp_eS h hl, noX_pure]
  simp only [bind_pure', O.dat]
  show ((optM (strsOf ((ds.map strD).map .str)) : M (List Str)) >>= fun ys => guardM (decide ((ys.map (·.length)).sum + ys.length * (" " : Str).length ≤ 16777216)) >>= fun _ => pure (D.str (Txt.join " " ys))) = _
  rw [strsOf_map, opt_some, guard_true (decide_eq_true (by rw [List.length_map]; exact hb))]
theorem cut_tail (x : D) (ds : List D) : cutD (x :: ds) (some 1) none = ds := by
  unfold cutD
  rw [HT.sIx_none, show HT.sIx (x :: ds).length 0 (some 1) = min 1 (x :: ds).length from HT.sIx_nat _ _ 1, List.length_cons, Nat.min_eq_left (by omega)]
  simp
theorem cut_to (ds : List D) (k : Nat) : cutD ds none (some (k : Int)) = ds.take k := by
  unfold cutD
  rw [HT.sIx_none, HT.sIx_nat]
  simp
theorem cut_from (ds : List D) (k : Nat) : cutD ds (some (k : Int)) none = ds.drop k := by
  unfold cutD
  rw [HT.sIx_none, HT.sIx_nat]
  by_cases h : k ≤ ds.length
  · rw [Nat.min_eq_left h]
    exact List.take_of_length_le (by rw [List.length_drop]; omega)
  · have e : ds.drop k = [] := List.drop_eq_nil_of_le (by omega)
    rw [e, Nat.min_eq_right (by omega), List.drop_length]
    exact List.take_nil
theorem written_eq {w : Str} {ds : List D} (h : ∀ d ∈ ds, okP d) (hl : ds.length ≤ 1000) (hb : (((D.str w :: ds).map strD).map (·.length)).sum + (D.str w :: ds).length * 1 ≤ 16777216) : m_written_deed [.tup (.str w :: ds)] = pure (.str (Txt.join " " ((D.str w :: ds).map strD))) := by
  unfold m_written_deed b_written_deed
  rw [mFn_run, runS_ret]
  have e1 : eIx (eVar 0) (eK (.int 0)) (ent 2 [.tup (.str w :: ds)]) = pure (.str w) := by
    show (optM (atI (.str w :: ds) ((0 : Nat) : Int)) : M D) = _
    rw [atI_nat (l := D.str w :: ds) (k := 0) (x := .str w) rfl]
    rfl
  have e2 : eSl (eVar 0) (pSome (eK (.int 1))) pNone (ent 2 [.tup (.str w :: ds)]) = pure (.tup ds) := by
    show (pure (.tup (cutD (.str w :: ds) (some 1) none)) : M D) = _
    rw [cut_tail]
  have e3 : DL.iItems (eSl (eVar 0) (pSome (eK (.int 1))) pNone) (ent 2 [.tup (.str w :: ds)]) = pure ds := by
    unfold DL.iItems
    rw [e2, bind_pure']
    rfl
  have e4 : nLc (DL.iItems (eSl (eVar 0) (pSome (eK (.int 1))) pNone)) (gN 1) tTrue eS [1] (ent 2 [.tup (.str w :: ds)]) = pure (.lst ((ds.map strD).map .str)) := by
    unfold nLc
    rw [e3, bind_pure', show ent 2 [.tup (.str w :: ds)] = [some (.val (.tup (.str w :: ds))), none] from rfl, comp_eS h hl, noX_pure, bind_pure']
  show eJoin (eK (.str " ")) (eBin oAdd (eFrz (nLst (aCons (eIx (eVar 0) (eK (.int 0))) aNil))) (eFrz (nLc (DL.iItems (eSl (eVar 0) (pSome (eK (.int 1))) pNone)) (gN 1) tTrue eS [1]))) (ent 2 [.tup (.str w :: ds)]) = _
  unfold eJoin eBin eFrz nLst aCons aNil
  rw [e4]
  simp only [e1, bind_pure', bind_assoc', eK, strM, O.dat]
  rw [guard_true (show szOk [D.str w].length = true from rfl)]
  have e5 : oAdd (.lst [.str w]) (.lst ((ds.map strD).map .str)) = pure (.lst (((D.str w :: ds).map strD).map .str)) := by
    show (guardM (szOk ([D.str w].length + ((ds.map strD).map D.str).length)) >>= fun _ => (pure (D.lst ([D.str w] ++ (ds.map strD).map D.str)) : M D)) = _
    rw [guard_true (show szOk ([D.str w].length + ((ds.map strD).map D.str).length) = true from decide_eq_true (by rw [List.length_map, List.length_map, List.length_singleton]; omega))]
    rfl
  try simp only [bind_pure', O.dat]
  rw [e5, bind_pure']
  show ((optM (strsOf (((D.str w :: ds).map strD).map .str)) : M (List Str)) >>= fun ys => guardM (decide ((ys.map (·.length)).sum + ys.length * (" " : Str).length ≤ 16777216)) >>= fun _ => (pure (D.str (Txt.join " " ys)) : M D)) = _
  rw [strsOf_map, opt_some, guard_true (decide_eq_true (by rw [List.length_map]; exact hb))]
end Lw
set_option Elab.async false
set_option linter.all false
set_option maxRecDepth 100000
set_option maxHeartbeats 2000000
namespace Lw
open PySem L2 DL
theorem dig_in {c : Nat} (h : 48 ≤ c ∧ c ≤ 57) : decide (c ∈ cs "0123456789") = true := by
  have : (cs "0123456789") = List.range' 48 10 := by decide +kernel
  rw [this]
  refine decide_eq_true ?_
  rw [List.mem_range'_1]
  omega
/-- the digits of a word that is a number -/
theorem all_dig {z : Str} (h : ∀ c ∈ cs z, 48 ≤ c ∧ c ≤ 57) (hl : (cs z).length ≤ 1000) {a : Option SD} :
    (eB (on1 oAll) (aCons (eFrz (nLc (DL.iItems (eVar 1)) (gN 2) tTrue (eBin oIn (eVar 2) (eK c_DIGITS)) [2])) aNil) [a, some (.val (.str z)), none] : M D) = pure (.bl true) := by
  unfold eB eFrz nLc DL.iItems
  have e1 : eVar 1 [a, some (.val (.str z)), none] = pure (.str z) := rfl
  simp only [aCons, aNil, e1, bind_assoc', bind_pure', itemsOf]
  rw [lcM_pure (E := fun d => [a, some (.val (.str z)), some (.val d)]) (p := fun _ => true) (f := fun _ => .bl true)]
  · simp only [noX_pure, bind_pure', O.dat, List.nil_append, on1]
    rw [filter_all]
    show (optM (blsOf ((signs z).map fun _ => D.bl true)) >>= fun bs => pure (D.bl (bs.all id))) = _
    rw [blsOf_trues, opt_some, all_trues]
  · intro d hd
    refine ⟨rfl, rfl, fun _ => ?_⟩
    unfold signs at hd
    obtain ⟨c, hc, rfl⟩ := List.mem_map.mp hd
    show (pure (.bl (decide (c ∈ cs "0123456789"))) : M D) = _
    rw [dig_in (h c hc)]
  · have e : (signs z).length = (cs z).length := by unfold signs; rw [List.length_map]
    show 0 + (signs z).length ≤ 1000000
    omega
end Lw
set_option Elab.async false
set_option linter.all false
set_option maxRecDepth 100000
set_option maxHeartbeats 2000000
namespace Lw
open PySem L2 DL
theorem str_ext {a b : Str} (h : cs a = cs b) : a = b := by
  obtain ⟨x⟩ := a
  obtain ⟨y⟩ := b
  congr
  exact Array.toList_inj.mp h
theorem cs_to1 (z : Str) : cs (cutS z none (some 1)) = (cs z).take 1 := by
  unfold cutS
  rw [HT.sIx_none, show HT.sIx z.length z.length (some 1) = min 1 z.length from HT.sIx_nat _ _ 1]
  show ((cs z).drop 0).take (min 1 z.length - 0) = _
  rw [List.drop_zero, Nat.sub_zero, len_cs]
  cases e : cs z with
  | nil => rfl
  | cons c r => rw [List.length_cons, Nat.min_eq_left (by omega)]
theorem cs_from1 (z : Str) : cs (cutS z (some 1) none) = (cs z).drop 1 := by
  unfold cutS
  rw [HT.sIx_none, show HT.sIx z.length 0 (some 1) = min 1 z.length from HT.sIx_nat _ _ 1]
  show ((cs z).drop (min 1 z.length)).take (z.length - min 1 z.length) = _
  rw [len_cs]
  cases e : cs z with
  | nil => rfl
  | cons c r =>
    rw [List.length_cons, Nat.min_eq_left (by omega)]
    exact List.take_of_length_le (by simp)
theorem numL_head {n : Nat} (h : n ≠ 0) : ∃ c r, TL.numL n = c :: r ∧ c ≠ 48 := by
  induction n using Nat.strongRecOn with
  | _ n ih =>
    by_cases q : n < 10
    · exact ⟨48 + n, [], TL.numL_lt q, by omega⟩
    · obtain ⟨c, r, e, k⟩ := ih (n / 10) (by omega) (by omega)
      exact ⟨c, r ++ [48 + n % 10], by rw [TL.numL_step (by omega), e]; rfl, k⟩
theorem oEqS_str (a b : Str) : oEqS (.str a) (.str b) = pure (.bl (decide (a = b))) := rfl
theorem oNeS_str (a b : Str) : oNeS (.str a) (.str b) = pure (.bl (!decide (a = b))) := rfl
theorem integer_ok {m : Int} (hm : okM m) : m_integer_of [.str (toString m)] = pure (.int m) := by
  obtain ⟨z, hz⟩ : ∃ z : Str, z = toString m := ⟨_, rfl⟩
  have hcs : cs z = sg m := by rw [hz]; exact cs_int m
  have hl := sg_len hm
  have hlz : z.length = (sg m).length := by rw [len_cs, hcs]
  have hback : PySem.intText? z = some m := by rw [hz]; exact int_back hm
  rw [← hz]
  obtain ⟨y, hy⟩ : ∃ y : Str, cs y = TL.numL m.natAbs ∧ eIf (tOf (eBin oEqS (eSl (eVar 0) pNone (pSome (eK (.int 1)))) (eK (.str "-")))) (eSl (eVar 0) (pSome (eK (.int 1))) pNone) (eVar 0) (ent 3 [.str z]) = pure (.str y) := by
    have gz : szOk z.length = true := decide_eq_true (by omega)
    have t1 : eSl (eVar 0) pNone (pSome (eK (.int 1))) (ent 3 [.str z]) = pure (.str (cutS z none (some 1))) := by
      show (guardM (szOk z.length) >>= fun _ => (pure (D.str (cutS z none (some 1))) : M D)) = _
      rw [guard_true gz]
    have t2 : eSl (eVar 0) (pSome (eK (.int 1))) pNone (ent 3 [.str z]) = pure (.str (cutS z (some 1) none)) := by
      show (guardM (szOk z.length) >>= fun _ => (pure (D.str (cutS z (some 1) none)) : M D)) = _
      rw [guard_true gz]
    have t3 : eVar 0 (ent 3 [.str z]) = pure (.str z) := rfl
    by_cases q : m < 0
    · have hs : sg m = 45 :: TL.numL m.natAbs := by unfold sg; rw [if_pos q]
      refine ⟨cutS z (some 1) none, by rw [cs_from1, hcs, hs]; rfl, ?_⟩
      unfold eIf tOf eBin
      simp only [t1, t2, t3, eK, bind_assoc', bind_pure', oEqS_str, asB_bl]
      have e : cutS z none (some 1) = "-" := str_ext (by rw [cs_to1, hcs, hs]; rfl)
      rw [decide_eq_true e, if_t]
    · have hs : sg m = TL.numL m.natAbs := by unfold sg; rw [if_neg q]
      refine ⟨z, by rw [hcs, hs], ?_⟩
      unfold eIf tOf eBin
      simp only [t1, t2, t3, eK, bind_assoc', bind_pure', oEqS_str, asB_bl]
      have e : cutS z none (some 1) ≠ "-" := fun e => by
        have e2 : (cs z).take 1 = [45] := by rw [← cs_to1, e]; rfl
        rw [hcs, hs] at e2
        have : (45 : Nat) ∈ TL.numL m.natAbs := List.mem_of_mem_take (by rw [e2]; simp)
        have := TL.numL_digits _ _ this
        omega
      rw [decide_eq_false e, if_f]
  obtain ⟨hyc, hye⟩ := hy
  have hyl : y.length = (TL.numL m.natAbs).length := by rw [len_cs, hyc]
  have hyl1 : 1 ≤ (TL.numL m.natAbs).length := List.length_pos_iff.mpr (TL.numL_ne _)
  have hyl2 : (TL.numL m.natAbs).length ≤ 15 := by
    have := hl.1
    unfold sg at this
    by_cases q : m < 0
    · rw [if_pos q, List.length_cons] at this; omega
    · rw [if_neg q] at this; omega
  unfold m_integer_of b_integer_of
  rw [mFn_run, runS_set, hye, bind_pure']
  show runS _ [some (.val (.str z)), some (.val (.str y)), none] = _
  rw [runS_ifS, ite_bind_f, runS_next, runS_ifS, ite_bind_f, runS_next, runS_ret]
  · show (guardM (decide (z.length ≤ 640)) >>= fun _ => (optM (PySem.intText? z) : M Int) >>= fun n => (pure (D.int n) : M D)) = _
    rw [guard_true (decide_eq_true (by omega)), hback]
    rfl
  · obtain ⟨c, r, hcr, hc48⟩ : ∃ c r, TL.numL m.natAbs = c :: r ∧ (c = 48 → m = 0) := by
      by_cases q : m.natAbs = 0
      · have : m = 0 := by omega
        subst this
        exact ⟨48, [], by rw [q]; exact TL.numL_lt (by decide), fun _ => rfl⟩
      · obtain ⟨c, r, e, k⟩ := numL_head q
        exact ⟨c, r, e, fun z => absurd z k⟩
    have gy : szOk y.length = true := decide_eq_true (by omega)
    have t1 : eIx (eVar 1) (eK (.int 0)) [some (.val (.str z)), some (.val (.str y)), none] = pure (.str ⟨#[c]⟩) := by
      show (guardM (szOk y.length) >>= fun _ => (optM (atI (cs y) ((0 : Nat) : Int)) : M Nat) >>= fun c => (pure (D.str ⟨#[c]⟩) : M D)) = _
      rw [guard_true gy, atI_nat (l := cs y) (k := 0) (x := c) (by rw [hyc, hcr]; rfl)]
      rfl
    have t2 : eVar 0 [some (.val (.str z)), some (.val (.str y)), none] = pure (.str z) := rfl
    unfold tAndM tOf eBin
    simp only [t1, t2, eK, bind_assoc', bind_pure', oEqS_str, oNeS_str, asB_bl]
    by_cases q : m = 0
    · have ez : z = "0" := by rw [hz, q]; rfl
      rw [decide_eq_true ez]
      cases decide ((⟨#[c]⟩ : Str) = "0") <;> rfl
    · have e : (⟨#[c]⟩ : Str) ≠ "0" := fun e => by
        have e2 : cs ⟨#[c]⟩ = [48] := by rw [e]; rfl
        rw [cs_str] at e2
        exact q (hc48 (by simpa using e2))
      rw [decide_eq_false e, if_f]
  · have gy : szOk y.length = true := decide_eq_true (by omega)
    have t1 : eB (on1 oLen) (aCons (eVar 1) aNil) [some (.val (.str z)), some (.val (.str y)), none] = pure (.int y.length) := by
      show (guardM (szOk y.length) >>= fun _ => (pure (D.int y.length) : M D)) = _
      rw [guard_true gy]
    have t2 := all_dig (z := y) (by rw [hyc]; exact TL.numL_digits _) (by rw [hyc]; omega) (a := some (.val (.str z)))
    unfold tOrM tNotM tOf eChain
    simp only [t1, eK, bind_assoc', bind_pure', oLe_int, asB_bl]
    rw [decide_eq_true (show (1 : Int) ≤ (y.length : Int) by omega), if_t]
    simp only [c_MOST_DIGITS, oLe_int, bind_pure', asB_bl]
    rw [decide_eq_true (show (y.length : Int) ≤ 60 by omega)]
    simp only [Bool.not_true, if_f]
    rw [t2]
    rfl
end Lw
set_option Elab.async false
set_option linter.all false
set_option maxRecDepth 100000
set_option maxHeartbeats 2000000
namespace Lw
open PySem L2 DL
/-- a word without a blank or a new line, not long -/
def okW (z : Str) : Prop := (cs z).length ≤ 20 ∧ ∀ c ∈ cs z, 45 ≤ c
theorem okW_int {m : Int} (h : okM m) : okW (toString m) := by
  refine ⟨by rw [cs_int]; have := (sg_len h).1; omega, fun c hc => ?_⟩
  rw [cs_int] at hc
  unfold sg at hc
  by_cases q : m < 0
  · rw [if_pos q] at hc
    rcases List.mem_cons.mp hc with rfl | hc
    · omega
    · have := TL.numL_digits _ _ hc; omega
  · rw [if_neg q] at hc
    have := TL.numL_digits _ _ hc; omega
theorem okW_w {z : Str} (h : isW z) : okW z := ⟨by have := h.2.1; omega, fun c hc => by have := h.2.2 c hc; omega⟩
theorem okW_par : okW "parent" := ⟨by decide +kernel, by decide +kernel⟩
theorem okW_look : okW "look" := ⟨by decide +kernel, by decide +kernel⟩
theorem okW_ask : okW "ask" := ⟨by decide +kernel, by decide +kernel⟩
theorem okW_no : okW "-" := ⟨by decide +kernel, by decide +kernel⟩
theorem okM_small {f : Int} (h1 : 1 ≤ f) (h2 : f ≤ 4) : okM f := ⟨by omega, by omega⟩
theorem words_okW {e : Dd} (h : e.ok) : ∀ w ∈ e.words, okW w := by
  cases e with
  | par m =>
    intro w hw
    simp only [Dd.words, List.mem_cons, List.not_mem_nil, or_false] at hw
    rcases hw with rfl | rfl
    · exact okW_par
    · exact okW_int h
  | look m z =>
    intro w hw
    simp only [Dd.words, List.mem_cons, List.not_mem_nil, or_false] at hw
    rcases hw with rfl | rfl | rfl
    · exact okW_look
    · exact okW_int h.1
    · exact okW_w h.2
  | ask m f z =>
    intro w hw
    simp only [Dd.words, List.mem_cons, List.not_mem_nil, or_false] at hw
    rcases hw with rfl | rfl | rfl | rfl
    · exact okW_ask
    · exact okW_int h.1
    · exact okW_int (okM_small h.2.1 h.2.2.1)
    · cases z with
      | none => exact okW_no
      | some z => exact okW_w (h.2.2.2 z rfl)
theorem words_len (e : Dd) : 2 ≤ e.words.length ∧ e.words.length ≤ 4 := by cases e <;> exact ⟨by simp [Dd.words], by simp [Dd.words]⟩
theorem joinL_len (n : Nat) : ∀ ps : List (List Nat), (∀ p ∈ ps, p.length ≤ n) → (TL.joinL [32] ps).length ≤ ps.length * (n + 1)
  | [], _ => Nat.zero_le _
  | [p], h => by
    have := h p (by simp)
    show p.length ≤ 1 * (n + 1)
    omega
  | p :: q :: r, h => by
    have h1 := h p (by simp)
    have ih := joinL_len n (q :: r) fun x hx => h x (List.mem_cons_of_mem _ hx)
    show (p ++ ([32] ++ TL.joinL [32] (q :: r))).length ≤ _
    rw [List.length_append, List.length_append, List.length_singleton]
    have : (p :: q :: r).length * (n + 1) = (q :: r).length * (n + 1) + (n + 1) := by rw [List.length_cons, Nat.succ_mul]
    omega
theorem cs_line (ws : List Str) : cs (Txt.join " " ws) = TL.joinL [32] (ws.map cs) := by
  rw [TL.join_eq]
  exact TL.tl_join " " ws
theorem line_len {e : Dd} (h : e.ok) : e.line.length ≤ 100 := by
  rw [len_cs]
  unfold Dd.line
  rw [cs_line]
  have h1 := joinL_len 20 (e.words.map cs) fun p hp => by
    obtain ⟨w, hw, rfl⟩ := List.mem_map.mp hp
    exact (words_okW h w hw).1
  rw [List.length_map] at h1
  have := (words_len e).2
  have : e.words.length * (20 + 1) ≤ 4 * 21 := Nat.mul_le_mul_right _ this
  omega
theorem split_line {e : Dd} (h : e.ok) : Txt.split e.line " " = e.words := by
  refine TL.split_join (s := 32) (S := []) (by decide +kernel) (by decide +kernel) (fun q => ?_) fun w hw hc => ?_
  · have := (words_len e).1
    rw [q] at this
    simp at this
  · have := (words_okW h w hw).2 32 hc
    omega
end Lw
set_option Elab.async false
set_option linter.all false
set_option maxRecDepth 100000
set_option maxHeartbeats 2000000
namespace Lw
open PySem L2 DL
theorem name_no : m_name_of [.str "-"] = pure .non := by kernel_rfl
theorem name_w {z : Str} (h : isW z) : m_name_of [.str z] = pure (.str z) := by
  have e : z ≠ "-" := fun e => by
    have : 45 ∈ cs z := by rw [e]; decide +kernel
    have := h.2.2 45 this
    omega
  unfold m_name_of b_name_of
  rw [mFn_run, runS_ret]
  unfold eIf tOf eBin
  have t : eVar 0 (ent 1 [.str z]) = pure (.str z) := rfl
  simp only [t, eK, bind_assoc', bind_pure', oEqS_str, asB_bl]
  rw [decide_eq_false e, if_f]
theorem splitM_ok {e : Dd} (h : e.ok) (env : LE) (he : env[0]? = some (some (.val (.str e.line)))) : eFrz (nSplit (eVar 0) (eK (.str " "))) env = pure (.lst (e.words.map .str)) := by
  have t : eVar 0 env = pure (.str e.line) := by unfold eVar; rw [he]
  unfold eFrz nSplit
  rw [t]
  simp only [eK, bind_assoc', bind_pure', strM]
  rw [guard_true (by rw [decide_eq_true (show e.line.length ≤ 1000000 by have := line_len h; omega)] <;> rfl), split_line h]
  rfl
theorem deed_fin {d : D} {a b : Option SD} (h : m_is_deed [d] = pure (.bl true)) : runS (sRet (eIf (tOf (eCall 1 m_is_deed [] (aCons (eVar 2) aNil))) (eVar 2) (eK .non))) [a, b, some (.val d)] = pure d := by
  rw [runS_ret]
  have t : eVar 2 [a, b, some (.val d)] = pure d := rfl
  have t2 : eCall 1 m_is_deed [] (aCons (eVar 2) aNil) [a, b, some (.val d)] = pure (.bl true) := by
    show m_is_deed [d] = _
    exact h
  unfold eIf tOf
  rw [t2, t]
  rfl
theorem deed_of_ok {e : Dd} (h : e.ok) : m_deed_of [.str e.line] = pure e.d := by
  unfold m_deed_of b_deed_of
  rw [mFn_run, runS_set, splitM_ok h _ rfl, bind_pure']
  have hd := is_deed_ok h
  cases e with
  | par m =>
    show runS _ [some (.val (.str (Dd.par m).line)), some (.val (.lst [.str "parent", .str (toString m)])), none] = _
    rw [runS_set]
    show runS _ [some (.val (.str (Dd.par m).line)), some (.val (.lst [.str "parent", .str (toString m)])), some (.val .non)] = _
    have t : eTup (aCons (eIx (eVar 1) (eK (.int 0))) (aCons (eCall 1 m_integer_of [] (aCons (eIx (eVar 1) (eK (.int 1))) aNil)) aNil)) [some (.val (.str (Dd.par m).line)), some (.val (.lst [.str "parent", .str (toString m)])), some (.val .non)] = pure (Dd.par m).d := by
      show ((m_integer_of [.str (toString m)] >>= fun x => (pure [x] : M (List D))) >>= fun r => (pure (D.str "parent" :: r) : M (List D))) >>= (fun ds => guardM (szOk ds.length) >>= fun _ => (pure (D.tup ds) : M D)) = _
      rw [integer_ok h]
      rfl
    rw [runS_ifS, ite_bind_t (by kernel_rfl), runS_set, t, bind_pure']
    exact deed_fin hd
  | look m z =>
    show runS _ [some (.val (.str (Dd.look m z).line)), some (.val (.lst [.str "look", .str (toString m), .str z])), none] = _
    rw [runS_set]
    show runS _ [some (.val (.str (Dd.look m z).line)), some (.val (.lst [.str "look", .str (toString m), .str z])), some (.val .non)] = _
    have t : eTup (aCons (eIx (eVar 1) (eK (.int 0))) (aCons (eCall 1 m_integer_of [] (aCons (eIx (eVar 1) (eK (.int 1))) aNil)) (aCons (eIx (eVar 1) (eK (.int 2))) aNil))) [some (.val (.str (Dd.look m z).line)), some (.val (.lst [.str "look", .str (toString m), .str z])), some (.val .non)] = pure (Dd.look m z).d := by
      show ((m_integer_of [.str (toString m)] >>= fun x => (pure [x, .str z] : M (List D))) >>= fun r => (pure (D.str "look" :: r) : M (List D))) >>= (fun ds => guardM (szOk ds.length) >>= fun _ => (pure (D.tup ds) : M D)) = _
      rw [integer_ok h.1]
      rfl
    rw [runS_ifS, ite_bind_f (by kernel_rfl), runS_ifS, ite_bind_t (by kernel_rfl), runS_set, t, bind_pure']
    exact deed_fin hd
  | ask m f z =>
    show runS _ [some (.val (.str (Dd.ask m f z).line)), some (.val (.lst [.str "ask", .str (toString m), .str (toString f), .str (optW z)])), none] = _
    rw [runS_set]
    show runS _ [some (.val (.str (Dd.ask m f z).line)), some (.val (.lst [.str "ask", .str (toString m), .str (toString f), .str (optW z)])), some (.val .non)] = _
    have hn : m_name_of [.str (optW z)] = pure (optD z) := by
      cases z with
      | none => exact name_no
      | some w => exact name_w (h.2.2.2 w rfl)
    have t : eTup (aCons (eIx (eVar 1) (eK (.int 0))) (aCons (eCall 1 m_integer_of [] (aCons (eIx (eVar 1) (eK (.int 1))) aNil)) (aCons (eCall 1 m_integer_of [] (aCons (eIx (eVar 1) (eK (.int 2))) aNil)) (aCons (eCall 1 m_name_of [] (aCons (eIx (eVar 1) (eK (.int 3))) aNil)) aNil)))) [some (.val (.str (Dd.ask m f z).line)), some (.val (.lst [.str "ask", .str (toString m), .str (toString f), .str (optW z)])), some (.val .non)] = pure (Dd.ask m f z).d := by
      show ((m_integer_of [.str (toString m)] >>= fun x => (m_integer_of [.str (toString f)] >>= fun y => (m_name_of [.str (optW z)] >>= fun u => (pure [u] : M (List D))) >>= fun r => (pure (y :: r) : M (List D))) >>= fun r => (pure (x :: r) : M (List D))) >>= fun r => (pure (D.str "ask" :: r) : M (List D))) >>= (fun ds => guardM (szOk ds.length) >>= fun _ => (pure (D.tup ds) : M D)) = _
      rw [integer_ok h.1, integer_ok (okM_small h.2.1 h.2.2.1), hn]
      rfl
    rw [runS_ifS, ite_bind_f (by kernel_rfl), runS_ifS, ite_bind_f (by kernel_rfl), runS_ifS, ite_bind_t (by kernel_rfl), runS_set, t, bind_pure']
    exact deed_fin hd
end Lw
set_option Elab.async false
set_option linter.all false
set_option maxRecDepth 100000
set_option maxHeartbeats 2000000
namespace Lw
open PySem L2 DL
/-- the parts of a deed -/
def Dd.head : Dd → Str
  | .par _ => "parent"
  | .look _ _ => "look"
  | .ask _ _ _ => "ask"
def Dd.rest : Dd → List D
  | .par m => [.int m]
  | .look m z => [.int m, .str z]
  | .ask m f z => [.int m, .int f, optD z]
theorem d_eq (e : Dd) : e.d = .tup (.str e.head :: e.rest) := by cases e <;> rfl
theorem okP_int {m : Int} (h : okM m) : okP (.int m) := by
  refine .inr (.inr ⟨m, rfl, ?_⟩)
  have h1 : m.natAbs < 2 ^ 64 := by have := h.1; have := h.2; omega
  have : m.natAbs.log2 < 64 := by
    by_cases q : m.natAbs = 0
    · rw [q]; decide
    · exact (Nat.log2_lt q).mpr h1
  omega
theorem okP_opt (z : Option Str) : okP (optD z) := by
  cases z with
  | none => exact .inl rfl
  | some z => exact .inr (.inl ⟨z, rfl⟩)
theorem rest_okP {e : Dd} (h : e.ok) : ∀ d ∈ e.rest, okP d := by
  cases e with
  | par m =>
    intro d hd
    simp only [Dd.rest, List.mem_cons, List.not_mem_nil, or_false] at hd
    rcases hd with rfl
    exact okP_int h
  | look m z =>
    intro d hd
    simp only [Dd.rest, List.mem_cons, List.not_mem_nil, or_false] at hd
    rcases hd with rfl | rfl
    · exact okP_int h.1
    · exact .inr (.inl ⟨_, rfl⟩)
  | ask m f z =>
    intro d hd
    simp only [Dd.rest, List.mem_cons, List.not_mem_nil, or_false] at hd
    rcases hd with rfl | rfl | rfl
    · exact okP_int h.1
    · exact okP_int (okM_small h.2.1 h.2.2.1)
    · exact okP_opt z
theorem strD_opt (z : Option Str) : strD (optD z) = optW z := by cases z <;> rfl
theorem parts_words (e : Dd) : (D.str e.head :: e.rest).map strD = e.words := by
  cases e with
  | par m => rfl
  | look m z => rfl
  | ask m f z =>
    show [("ask" : Str), toString m, toString f, strD (optD z)] = _
    rw [strD_opt]
    rfl
theorem sum_le {n : Nat} : ∀ ws : List Str, (∀ w ∈ ws, w.length ≤ n) → (ws.map (·.length)).sum ≤ ws.length * n
  | [], _ => Nat.zero_le _
  | w :: r, h => by
    have h1 := h w (by simp)
    have ih := sum_le r fun x hx => h x (List.mem_cons_of_mem _ hx)
    rw [List.map_cons, List.sum_cons, List.length_cons, Nat.succ_mul]
    omega
theorem words_sum {e : Dd} (h : e.ok) : (e.words.map (·.length)).sum + e.words.length * 1 ≤ 16777216 := by
  have h1 := sum_le (n := 20) e.words fun w hw => by rw [len_cs]; exact (words_okW h w hw).1
  have h2 := (words_len e).2
  have : e.words.length * 20 ≤ 4 * 20 := Nat.mul_le_mul_right _ h2
  omega
theorem rest_len (e : Dd) : e.rest.length ≤ 3 := by cases e <;> simp [Dd.rest]
theorem law_line_ok {e : Dd} (h : e.ok) : m__law_line [e.d] = pure (.str e.line) := by
  rw [d_eq, line_eq]
  · rw [parts_words]
    rfl
  · intro d hd
    rcases List.mem_cons.mp hd with rfl | hd
    · exact .inr (.inl ⟨_, rfl⟩)
    · exact rest_okP h d hd
  · have := rest_len e
    rw [List.length_cons]
    omega
  · have q := words_sum h
    rw [parts_words, show (D.str e.head :: e.rest).length = e.words.length by rw [← parts_words, List.length_map]]
    exact q
theorem written_ok {e : Dd} (h : e.ok) : m_written_deed [e.d] = pure (.str e.line) := by
  rw [d_eq, written_eq (rest_okP h) (by have := rest_len e; omega)]
  · rw [parts_words]
    rfl
  · have q := words_sum h
    rw [parts_words, show (D.str e.head :: e.rest).length = e.words.length by rw [← parts_words, List.length_map]]
    exact q
end Lw
set_option Elab.async false
set_option linter.all false
set_option maxRecDepth 100000
set_option maxHeartbeats 2000000
namespace Lw
open PySem L2 DL
/-- which of the values are deeds -/
def deedTest (ds : List D) : LE → M D := eB (on1 oAll) (aCons (eFrz (nLc (DL.iItems (eVar 0)) (gN 1) tTrue (eCall 1 m_is_deed [] (aCons (eVar 1) aNil)) [1])) aNil)
theorem blsOf_map (f : D → Bool) : ∀ l : List D, blsOf (l.map fun d => D.bl (f d)) = some (l.map f)
  | [] => rfl
  | x :: r => by
    show (blsOf (r.map fun d => D.bl (f d))).map (f x :: ·) = _
    rw [blsOf_map f r]
    rfl
theorem test_eq {ds : List D} {f : D → Bool} (h : ∀ d ∈ ds, m_is_deed [d] = pure (.bl (f d))) (hl : ds.length ≤ 1000) : deedTest ds [some (.val (.lst ds)), none] = pure (.bl (ds.all f)) := by
  unfold deedTest eB eFrz nLc DL.iItems
  have e0 : eVar 0 [some (.val (.lst ds)), none] = pure (.lst ds) := rfl
  simp only [aCons, aNil, e0, bind_assoc', bind_pure', itemsOf]
  rw [lcM_pure (E := fun d => [some (.val (.lst ds)), some (.val d)]) (p := fun _ => true) (f := fun d => .bl (f d))]
  · simp only [noX_pure, bind_pure', O.dat, List.nil_append, on1]
    rw [filter_all]
    show (optM (blsOf (ds.map fun d => D.bl (f d))) >>= fun bs => pure (D.bl (bs.all id))) = _
    rw [blsOf_map, opt_some, List.all_map]
    rfl
  · exact fun d hd => ⟨rfl, rfl, fun _ => h d hd⟩
  · show 0 + ds.length ≤ 1000000
    omega
theorem format_ok {es : List Dd} (h : ∀ e ∈ es, e.ok) (hl : es.length ≤ 100) : m_format_deeds [.lst (es.map Dd.d)] = pure (.str (Txt.join "\n" (es.map Dd.line))) := by
  have ht := test_eq (ds := es.map Dd.d) (f := fun _ => true) (fun d hd => by
    obtain ⟨e, he, rfl⟩ := List.mem_map.mp hd
    exact is_deed_ok (h e he)) (by rw [List.length_map]; omega)
  have ha : (es.map Dd.d).all (fun _ => true) = true := List.all_eq_true.mpr fun _ _ => rfl
  rw [ha] at ht
  unfold m_format_deeds b_format_deeds
  rw [mFn_run, runS_ifS, ite_bind_f, runS_next, runS_ret]
  · have c : nLc (DL.iItems (eVar 0)) (gN 1) tTrue (eCall 1 m_written_deed [] (aCons (eVar 1) aNil)) [1] [some (.val (.lst (es.map Dd.d))), none] = pure (.lst ((es.map Dd.line).map .str)) := by
      unfold nLc DL.iItems
      have e0 : eVar 0 [some (.val (.lst (es.map Dd.d))), none] = pure (.lst (es.map Dd.d)) := rfl
      simp only [e0, bind_assoc', bind_pure', itemsOf]
      have key : ∀ (l : List Dd) (acc : List D), (∀ e ∈ l, e.ok) → acc.length + l.length ≤ 1000000 → lcM (gN 1) tTrue (eCall 1 m_written_deed [] (aCons (eVar 1) aNil)) (wipeE [some (.val (.lst (es.map Dd.d))), none] [1]) (l.map Dd.d) acc = pure (acc ++ (l.map Dd.line).map .str) := by
        intro l
        induction l with
        | nil => intro acc _ _; show (pure acc : M (List D)) = _; simp
        | cons e r ih =>
          intro acc hr hz
          have hz' : acc.length + (r.length + 1) ≤ 1000000 := hz
          show (m_written_deed [e.d] >>= fun y => guardM (szOk acc.length) >>= fun _ => lcM (gN 1) tTrue (eCall 1 m_written_deed [] (aCons (eVar 1) aNil)) (wipeE [some (.val (.lst (es.map Dd.d))), none] [1]) (r.map Dd.d) (acc ++ [y])) = _
          rw [written_ok (hr e (by simp)), bind_pure', guard_true (show szOk acc.length = true from decide_eq_true (by omega)), ih (acc ++ [D.str e.line]) (fun x hx => hr x (List.mem_cons_of_mem _ hx)) (by rw [List.length_append, List.length_singleton]; omega)]
          simp
      rw [key es [] h (by show 0 + es.length ≤ _; omega), noX_pure]
      rfl
    unfold eJoin eFrz
    rw [show ent 2 [.lst (es.map Dd.d)] = [some (.val (.lst (es.map Dd.d))), none] from rfl, c]
    simp only [eK, bind_pure', bind_assoc', strM, O.dat]
    show ((optM (strsOf ((es.map Dd.line).map .str)) : M (List Str)) >>= fun ys => guardM (decide ((ys.map (·.length)).sum + ys.length * ("\n" : Str).length ≤ 16777216)) >>= fun _ => (pure (D.str (Txt.join "\n" ys)) : M D)) = _
    rw [strsOf_map, opt_some, guard_true]
    refine decide_eq_true ?_
    have h1 := sum_le (n := 100) (es.map Dd.line) fun w hw => by
      obtain ⟨e, he, rfl⟩ := List.mem_map.mp hw
      exact line_len (h e he)
    rw [List.length_map] at h1 ⊢
    show _ + es.length * 1 ≤ _
    have : es.length * 100 ≤ 100 * 100 := Nat.mul_le_mul_right _ hl
    omega
  · show tOrM (tNotM (tOf (eIsT noSub .lst (eVar 0)))) (tNotM (tOf (deedTest (es.map Dd.d)))) [some (.val (.lst (es.map Dd.d))), none] = _
    unfold tOrM tNotM tOf
    rw [ht]
    rfl
end Lw
set_option Elab.async false
set_option linter.all false
set_option maxRecDepth 100000
set_option maxHeartbeats 2000000
namespace Lw
open PySem L2 DL
theorem runS_try_exc {i j : Nat} {mt : Nat → Option Bool} {mb n : SM} {me : LE → M D} {env env' : LE} {s s' : S} {fs : List (Str × D)} {d : D} (h : mb env s = some (.xc (.own j) fs env', s')) (hm : mt j = some true) (he : me (env'.set i (some (.val (.exn j fs)))) s' = .ok d s') (hn : d.nox = true) :
    sTryAs i mt mb me env s = some (.rt d, s') := by
  unfold sTryAs
  rw [h]
  show (match mt j with | some true => sufRes (me (env'.set i (some (.val (.exn j fs)))) s') s' | some false => some (.xc (.own j) fs env', s') | none => none) = _
  rw [hm]
  show sufRes (me (env'.set i (some (.val (.exn j fs)))) s') s' = _
  rw [he]
  unfold sufRes
  simp [hn]
theorem format_bad {ds : List D} {f : D → Bool} (h : ∀ d ∈ ds, m_is_deed [d] = pure (.bl (f d))) (hl : ds.length ≤ 1000) (hf : ds.all f = false) : m_format_deeds [.lst ds] = mRaise (.own 1) [("value", .lst ds)] := by
  have ht := test_eq h hl
  rw [hf] at ht
  unfold m_format_deeds b_format_deeds
  rw [mFn_run, runS_ifS, ite_bind_t, runS_raise]
  · rfl
  · show tOrM (tNotM (tOf (eIsT noSub .lst (eVar 0)))) (tNotM (tOf (deedTest ds))) [some (.val (.lst ds)), none] = _
    unfold tOrM tNotM tOf
    rw [ht]
    rfl
theorem format_tup (ds : List D) : m_format_deeds [.tup ds] = mRaise (.own 1) [("value", .tup ds)] := by kernel_rfl
theorem format_non : m_format_deeds [.non] = mRaise (.own 1) [("value", .non)] := by kernel_rfl
theorem format_int : m_format_deeds [.int 5] = mRaise (.own 1) [("value", .int 5)] := by kernel_rfl
theorem format_dct : m_format_deeds [.dct []] = mRaise (.own 1) [("value", .dct [])] := by kernel_rfl
theorem refused_ok {x : D} {t : Str} (h : m_format_deeds [x] = mRaise (.own 1) [("value", x)]) (hr : oRepr x = pure (.str t)) : m__law_refused [x] = pure (.bl true) := by
  funext s
  unfold m__law_refused b__law_refused
  have e1 : sExpr (eCall 1 m_format_deeds [] (aCons (eVar 0) aNil)) (ent 2 [x]) s = some (.xc (.own 1) [("value", x)] (ent 2 [x]), s) := by
    unfold sExpr sE
    rw [show eCall 1 m_format_deeds [] (aCons (eVar 0) aNil) (ent 2 [x]) = m_format_deeds [x] from rfl, h]
    rfl
  have e2 : (eAnd (eBin oEqS (eB (on1 oRepr) (aCons (eXf "value" (eVar 1)) aNil)) (eB (on1 oRepr) (aCons (eVar 0) aNil))) (eIsE tb_InvalidDeeds_MoveError (eVar 1))) ((ent 2 [x]).set 1 (some (.val (.exn 1 [("value", x)])))) s = .ok (.bl true) s := by
    have a1 : eB (on1 oRepr) (aCons (eXf "value" (eVar 1)) aNil) ((ent 2 [x]).set 1 (some (.val (.exn 1 [("value", x)])))) = oRepr x := rfl
    have a2 : eB (on1 oRepr) (aCons (eVar 0) aNil) ((ent 2 [x]).set 1 (some (.val (.exn 1 [("value", x)])))) = oRepr x := rfl
    unfold eAnd eBin
    rw [a1, a2, hr]
    simp only [bind_pure', oEqS_str, asB_bl, decide_true, if_t]
    rfl
  have e3 := runS_try_exc (mt := mt_InvalidDeeds) (n := sNext) e1 rfl e2 rfl
  rw [mFn_run]
  unfold runS sSeq
  rw [e3]
  rfl
end Lw
set_option Elab.async false
set_option linter.all false
set_option maxRecDepth 100000
set_option maxHeartbeats 2000000
namespace Lw
open PySem L2 DL
/-- a turn of the reading loop -/
def pB : SM := sSeq (sSet 4 (eCall 1 m_deed_of [] (aCons (eVar 3) aNil))) (sSeq (sIf (tOf (eBin oIsN (eVar 4) (eK .non))) (sRaise 2 "line" (eVar 2)) sNext) (sApp 1 (eVar 4)))
def pG : GM := gTupM 2 (gsCons (gN 2) (gsCons (gN 3) gsNil))
def pN : SM := sLoc 1 (sRet (eVar 1))
theorem pB_good {e : Dd} (h : e.ok) {t a b c : Option SD} {acc : List D} (ha : acc.length ≤ 1000) {k : Int} (s : S) :
    pB [t, some (.own (.lst acc)), some (.val (.int k)), some (.val (.str e.line)), c] s = some (.nx [t, some (.own (.lst (acc ++ [e.d]))), some (.val (.int k)), some (.val (.str e.line)), some (.val e.d)], s) := by
  have e1 : sSet 4 (eCall 1 m_deed_of [] (aCons (eVar 3) aNil)) [t, some (.own (.lst acc)), some (.val (.int k)), some (.val (.str e.line)), c] s = some (.nx [t, some (.own (.lst acc)), some (.val (.int k)), some (.val (.str e.line)), some (.val e.d)], s) := by
    unfold sSet sE
    rw [show eCall 1 m_deed_of [] (aCons (eVar 3) aNil) [t, some (.own (.lst acc)), some (.val (.int k)), some (.val (.str e.line)), c] = m_deed_of [.str e.line] from rfl, deed_of_ok h]
    rfl
  have e2 : sIf (tOf (eBin oIsN (eVar 4) (eK .non))) (sRaise 2 "line" (eVar 2)) sNext [t, some (.own (.lst acc)), some (.val (.int k)), some (.val (.str e.line)), some (.val e.d)] s = some (.nx [t, some (.own (.lst acc)), some (.val (.int k)), some (.val (.str e.line)), some (.val e.d)], s) := by
    cases e <;> rfl
  have e3 : sApp 1 (eVar 4) [t, some (.own (.lst acc)), some (.val (.int k)), some (.val (.str e.line)), some (.val e.d)] s = some (.nx [t, some (.own (.lst (acc ++ [e.d]))), some (.val (.int k)), some (.val (.str e.line)), some (.val e.d)], s) := by
    show (if szOk acc.length = true then some (Fl.nx ([t, some (.own (.lst acc)), some (.val (.int k)), some (.val (.str e.line)), some (.val e.d)].set 1 (some (.own (.lst (acc ++ [e.d]))))), s) else none) = _
    rw [if_pos (show szOk acc.length = true from decide_eq_true (by omega))]
    rfl
  unfold pB
  unfold sSeq
  rw [e1]
  show (match sSeq (sIf (tOf (eBin oIsN (eVar 4) (eK .non))) (sRaise 2 "line" (eVar 2)) sNext) (sApp 1 (eVar 4)) [t, some (.own (.lst acc)), some (.val (.int k)), some (.val (.str e.line)), some (.val e.d)] s with | r => r) = _
  unfold sSeq
  rw [e2]
  exact e3
theorem loop_good : ∀ (es : List Dd) (ds : List D) (k : Nat) (t b c d : Option SD) (acc : List D) (s : S), (∀ e ∈ es, e.ok) → acc.length + es.length ≤ 1000 →
    ∃ b' c' d', loopR pG pB pN (enumD k ((es.map Dd.line).map .str ++ ds)) [t, some (.own (.lst acc)), b, c, d] s = loopR pG pB pN (enumD (k + es.length) ds) [t, some (.own (.lst (acc ++ es.map Dd.d))), b', c', d'] s
  | [], ds, k, t, b, c, d, acc, s, _, _ => ⟨b, c, d, by simp⟩
  | e :: r, ds, k, t, b, c, d, acc, s, h, hz => by
    have hz' : acc.length + (r.length + 1) ≤ 1000 := hz
    obtain ⟨b', c', d', q⟩ := loop_good r ds (k + 1) t (some (.val (.int k))) (some (.val (.str e.line))) (some (.val e.d)) (acc ++ [e.d]) s (fun x hx => h x (List.mem_cons_of_mem _ hx)) (by rw [List.length_append, List.length_singleton]; omega)
    refine ⟨b', c', d', ?_⟩
    show loopR pG pB pN (.tup [.int k, .str e.line] :: enumD (k + 1) ((r.map Dd.line).map .str ++ ds)) [t, some (.own (.lst acc)), b, c, d] s = _
    rw [loop_turn (env1 := [t, some (.own (.lst acc)), some (.val (.int k)), some (.val (.str e.line)), d]) rfl (pB_good (h e (by simp)) (a := none) (b := none) (by omega) s), q]
    rw [show k + 1 + r.length = k + (e :: r).length by rw [List.length_cons]; omega, List.append_assoc]
    rfl
end Lw
set_option Elab.async false
set_option linter.all false
set_option maxRecDepth 100000
set_option maxHeartbeats 2000000
namespace Lw
open PySem L2 DL
theorem pB_bad {z : Str} (h : m_deed_of [.str z] = pure .non) {t c : Option SD} {acc : List D} {k : Int} (s : S) :
    pB [t, some (.own (.lst acc)), some (.val (.int k)), some (.val (.str z)), c] s = some (.xc (.own 2) [("line", .int k)] [t, some (.own (.lst acc)), some (.val (.int k)), some (.val (.str z)), some (.val .non)], s) := by
  have e1 : sSet 4 (eCall 1 m_deed_of [] (aCons (eVar 3) aNil)) [t, some (.own (.lst acc)), some (.val (.int k)), some (.val (.str z)), c] s = some (.nx [t, some (.own (.lst acc)), some (.val (.int k)), some (.val (.str z)), some (.val .non)], s) := by
    unfold sSet sE
    rw [show eCall 1 m_deed_of [] (aCons (eVar 3) aNil) [t, some (.own (.lst acc)), some (.val (.int k)), some (.val (.str z)), c] = m_deed_of [.str z] from rfl, h]
    rfl
  unfold pB
  unfold sSeq
  rw [e1]
  rfl
theorem loop_bad {z : Str} (h : m_deed_of [.str z] = pure .non) (ds : List D) (k : Nat) (t b c d : Option SD) (acc : List D) (s : S) :
    loopR pG pB pN (enumD k (.str z :: ds)) [t, some (.own (.lst acc)), b, c, d] s = .exc (.own 2) [("line", .int k)] s := by
  show loopR pG pB pN (.tup [.int k, .str z] :: enumD (k + 1) ds) [t, some (.own (.lst acc)), b, c, d] s = _
  exact loop_exc (env1 := [t, some (.own (.lst acc)), some (.val (.int k)), some (.val (.str z)), d]) rfl (pB_bad h s)
/-- behind the loop: a new cell -/
theorem loop_end (t b c d : Option SD) (acc : List D) (s : S) : loopR pG pB pN [] [t, some (.own (.lst acc)), b, c, d] s = .ok (.loc s.length) (s ++ [some (.lst acc)]) := rfl
end Lw
set_option Elab.async false
set_option linter.all false
set_option maxRecDepth 100000
set_option maxHeartbeats 2000000
namespace Lw
open PySem L2 DL
theorem parse_eq {z : Str} (hz : z ≠ "") (hl : z.length ≤ 1000000) : m_parse_deeds [.str z] = loopR pG pB pN (enumD 0 ((Txt.split z "\n").map .str)) [some (.val (.str z)), some (.own (.lst [])), none, none, none] := by
  unfold m_parse_deeds b_parse_deeds
  rw [mFn_run, runS_ifS, ite_bind_f (by kernel_rfl), runS_next, runS_own]
  show runS (sSeq (sFor _ pG pB) pN) [some (.val (.str z)), some (.own (.lst [])), none, none, none] = _
  rw [runS_for]
  have t : eVar 0 [some (.val (.str z)), some (.own (.lst [])), none, none, none] = pure (.str z) := rfl
  unfold iEnumM eIf tOf eBin eFrz nSplit
  simp only [t, eK, bind_assoc', bind_pure', oNeS_str, asB_bl, strM]
  rw [decide_eq_false hz]
  simp only [Bool.not_false, if_t, bind_assoc', bind_pure']
  rw [guard_true (by rw [decide_eq_true hl] <;> rfl)]
  rfl
end Lw
set_option Elab.async false
set_option linter.all false
set_option maxRecDepth 100000
set_option maxHeartbeats 2000000
namespace Lw
open PySem L2 DL
theorem told_bad {x v : D} {s : S} (h : m_parse_deeds [x] s = .exc (.own 2) [("line", v)] s) (hv : v.nox = true) : m__law_told [x] s = .ok (.tup [.str "no", v, .bl true]) s := by
  unfold m__law_told b__law_told
  have e1 : sRet (eCall 1 m_parse_deeds [] (aCons (eVar 0) aNil)) (ent 2 [x]) s = some (.xc (.own 2) [("line", v)] (ent 2 [x]), s) := by
    unfold sRet sE
    rw [show eCall 1 m_parse_deeds [] (aCons (eVar 0) aNil) (ent 2 [x]) = m_parse_deeds [x] from rfl, h]
  have e2 : eTup (aCons (eK (.str "no")) (aCons (eXf "line" (eVar 1)) (aCons (eIsE tb_ParseError_MoveError (eVar 1)) aNil))) ((ent 2 [x]).set 1 (some (.val (.exn 2 [("line", v)])))) s = .ok (.tup [.str "no", v, .bl true]) s := rfl
  have e3 := runS_try_exc (mt := mt_ParseError) (n := sNext) e1 rfl e2 (by simp [D.nox, noxL, hv])
  rw [mFn_run]
  unfold runS
  rw [e3]
  rfl
theorem told_good {x d : D} {s s' : S} (h : m_parse_deeds [x] s = .ok d s') : m__law_told [x] s = .ok d s' := by
  unfold m__law_told b__law_told
  have e1 : sRet (eCall 1 m_parse_deeds [] (aCons (eVar 0) aNil)) (ent 2 [x]) s = some (.rt d, s') := by
    unfold sRet sE
    rw [show eCall 1 m_parse_deeds [] (aCons (eVar 0) aNil) (ent 2 [x]) = m_parse_deeds [x] from rfl, h]
  rw [mFn_run]
  unfold runS sTryAs
  rw [e1]
  rfl
end Lw
set_option Elab.async false
set_option linter.all false
set_option maxRecDepth 100000
set_option maxHeartbeats 2000000
namespace Lw
open PySem L2 DL
theorem max_abs (c : Int) : ∃ z : Int, 0 ≤ z ∧ (if -1 - c > c then -1 - c else c) = z := by
  by_cases h : -1 - c > c
  · exact ⟨-1 - c, by omega, if_pos h⟩
  · exact ⟨c, by omega, if_neg h⟩
def sa3 : LE → M D := eB (on2 oMax2) (aCons (eB (on1 oInt) (aCons (eVar 2) aNil)) (aCons (eB (on1 oInt) (aCons (eBin oSub (eNeg (eK (.int 1))) (eVar 2)) aNil)) aNil))
def sa4 : LE → M D := eBin oMod (eB (on1 oInt) (aCons (eBin oMul (eBin oAdd (eBin oAdd (eBin oAdd (eBin oMod (eB (on1 oInt) (aCons (eVar 3) aNil)) (eK (.int 2147483629))) (eBin oMul (eBin oMul (eK (.int 7919)) (eVar 1)) (eVar 1))) (eBin oMul (eK (.int 31)) (eVar 1))) (eK (.int 17))) (eK (.int 48271))) aNil)) (eK (.int 2147483647))
def sa5 : LE → M D := eLoc (nLst (aCons (eBin oMul (eVar 3) (eB (on1 oInt) (aCons (eBin oGe (eVar 3) (eBin oPow (eK (.int 10)) (eK (.int 18)))) aNil))) (aCons (eVar 4) aNil)))
theorem sa3_ok (ns : List Int) (k c : Int) : ∃ z : Int, 0 ≤ z ∧ sa3 [some (.val (.scr ns)), some (.val (.int k)), some (.val (.int c)), none, none] = pure (.int z) := by
  obtain ⟨z, hz, ez⟩ := max_abs c
  refine ⟨z, hz, ?_⟩
  unfold sa3 eB eBin eNeg
  simp only [aCons, aNil, eK, eVar, bind_assoc', bind_pure', List.getElem?_cons_zero, List.getElem?_cons_succ, on1, on2, oNeg_int, oSub_int, oInt_int, oMax2_int, ez]
theorem eBin_of {f : D → D → M D} {ma mb : LE → M D} {env : LE} {x y : D} (h : ma env = pure x) (k : mb env = pure y) : eBin f ma mb env = f x y := by
  unfold eBin
  rw [h, bind_pure', k, bind_pure']
theorem eB1_of {f : D → M D} {ma : LE → M D} {env : LE} {x : D} (h : ma env = pure x) : eB (on1 f) (aCons ma aNil) env = f x := by
  unfold eB aCons aNil
  rw [h]
  rfl
theorem o_mul {i j : Int} (h : -(2 ^ 64) < j) (k : j < 2 ^ 64) : oMul (.int i) (.int j) = pure (.int (i * j)) := by
  rw [oMul_int, guard_true (mulOk_r h k)]
theorem o_mod {i j : Int} (h : 0 < j) : oMod (.int i) (.int j) = pure (.int (i % j)) := by
  rw [oMod_int, guard_true (decide_eq_true h)]
theorem sa4_ok (ns : List Int) (k : Nat) (hk : k < 1000) (c z : Int) : ∃ w : Int, 0 ≤ w ∧ sa4 [some (.val (.scr ns)), some (.val (.int k)), some (.val (.int c)), some (.val (.int z)), none] = pure (.int w) := by
  generalize he : ([some (.val (.scr ns)), some (.val (.int k)), some (.val (.int c)), some (.val (.int z)), none] : LE) = env
  have v1 : eVar 1 env = pure (.int k) := by rw [← he]; rfl
  have v3 : eVar 3 env = pure (.int z) := by rw [← he]; rfl
  have kk : ∀ i : Int, eK (.int i) env = pure (.int i) := fun _ => rfl
  have i3 : eB (on1 oInt) (aCons (eVar 3) aNil) env = pure (.int z) := eB1_of (f := oInt) v3
  have h1 : eBin oMod (eB (on1 oInt) (aCons (eVar 3) aNil)) (eK (.int 2147483629)) env = pure (.int (z % 2147483629)) := (eBin_of i3 (kk 2147483629)).trans (o_mod (by decide))
  have h2 : eBin oMul (eK (.int 7919)) (eVar 1) env = pure (.int (7919 * k)) := (eBin_of (kk 7919) v1).trans (o_mul (by omega) (by omega))
  have h3 : eBin oMul (eBin oMul (eK (.int 7919)) (eVar 1)) (eVar 1) env = pure (.int (7919 * k * k)) := (eBin_of h2 v1).trans (o_mul (by omega) (by omega))
  have h4 : eBin oMul (eK (.int 31)) (eVar 1) env = pure (.int (31 * k)) := (eBin_of (kk 31) v1).trans (o_mul (by omega) (by omega))
  have h5 := (eBin_of h1 h3).trans (oAdd_int (i := z % 2147483629))
  have h6 := (eBin_of h5 h4).trans (oAdd_int (j := 31 * (k : Int)))
  have h7 := (eBin_of h6 (kk 17)).trans (oAdd_int (j := 17))
  generalize z % 2147483629 + 7919 * (k : Int) * k + 31 * k + 17 = t at h7
  have h8 := (eBin_of h7 (kk 48271)).trans (o_mul (i := t) (j := 48271) (by decide) (by decide))
  have h9 := (eBin_of (eB1_of (f := oInt) h8) (kk 2147483647)).trans (o_mod (i := t * 48271) (j := 2147483647) (by decide))
  exact ⟨t * 48271 % 2147483647, Int.emod_nonneg _ (by decide), h9⟩
theorem p18 : powOk 10 18 = true := by decide +kernel
theorem sa5_ok (ns : List Int) (k c z w : Int) (hz : 0 ≤ z) (hw : 0 ≤ w) (s : S) : ∃ s', sa5 [some (.val (.scr ns)), some (.val (.int k)), some (.val (.int c)), some (.val (.int z)), some (.val (.int w))] s = .ok (.loc s.length) s' ∧ St s.length s' := by
  obtain ⟨t, et⟩ : ∃ t : Int, (10 : Int) ^ (18 : Int).toNat = t := ⟨_, rfl⟩
  have e1 : oPow (.int 10) (.int 18) = pure (.int t) := by
    rw [oPow_int, guard_true p18, et]
  obtain ⟨b, eb, hb⟩ : ∃ b : Int, (if decide (t ≤ z) = true then 1 else 0) = b ∧ (b = 0 ∨ b = 1) := ⟨_, rfl, by split <;> simp⟩
  have mb : mulOk z b = true := by
    rcases hb with rfl | rfl
    · exact mulOk_r (by decide) (by decide)
    · exact mulOk_r (by decide) (by decide)
  obtain ⟨u, hu, eu⟩ : ∃ u : Int, 0 ≤ u ∧ z * b = u := ⟨_, by rcases hb with rfl | rfl <;> omega, rfl⟩
  have e2 : aCons (eBin oMul (eVar 3) (eB (on1 oInt) (aCons (eBin oGe (eVar 3) (eBin oPow (eK (.int 10)) (eK (.int 18)))) aNil))) (aCons (eVar 4) aNil) [some (.val (.scr ns)), some (.val (.int k)), some (.val (.int c)), some (.val (.int z)), some (.val (.int w))] = pure [.int u, .int w] := by
    unfold eB
    simp only [aCons, aNil, eBin, eK, eVar, on1, bind_assoc', bind_pure', List.getElem?_cons_zero, List.getElem?_cons_succ, e1, oGe_int, oInt_bl, eb, oMul_int, guard_true mb, eu]
  unfold sa5 eLoc nLst
  rw [e2]
  exact ⟨s ++ [some (O.lst [.int u, .int w])], rfl, u, w, hu, hw, by rw [List.getElem?_append_right (Nat.le_refl _), Nat.sub_self]; exact List.getElem?_cons_zero⟩
/-- the stream of a script number -/
theorem stream_ok (ns : List Int) (k : Nat) (hk : k < 1000) (s : S) : ∃ s', m__law_stream [.scr ns, .int k] s = .ok (.loc s.length) s' ∧ St s.length s' := by
  have key : ∀ c : Int, ∃ s', runS (sSeq (sSet 3 sa3) (sSeq (sSet 4 sa4) (sRet sa5))) [some (.val (.scr ns)), some (.val (.int k)), some (.val (.int c)), none, none] s = .ok (.loc s.length) s' ∧ St s.length s' := by
    intro c
    obtain ⟨z, hz, e3⟩ := sa3_ok ns k c
    obtain ⟨w, hw, e4⟩ := sa4_ok ns k hk c z
    rw [runS_set, e3, bind_pure']
    rw [show ([some (.val (.scr ns)), some (.val (.int k)), some (.val (.int c)), none, none] : LE).set 3 (some (.val (.int z))) = [some (.val (.scr ns)), some (.val (.int k)), some (.val (.int c)), some (.val (.int z)), none] from rfl]
    rw [runS_set, e4, bind_pure', runS_ret]
    exact sa5_ok ns k c z w hz hw s
  have ht : tOf (eBin oLt (eVar 1) (eB (on1 oLen) (aCons (eVar 0) aNil))) [some (.val (.scr ns)), some (.val (.int k)), some (.val (.int 0)), none, none] = pure (decide ((k : Int) < ((ns.map D.int).length : Nat))) := rfl
  have hx : eIx (eVar 0) (eVar 1) [some (.val (.scr ns)), some (.val (.int k)), some (.val (.int 0)), none, none] = optM (atI (ns.map D.int) k) := rfl
  have hb : b__law_stream = sSeq (sSet 2 (eK (.int 0))) (sSeq (sIf (tOf (eBin oLt (eVar 1) (eB (on1 oLen) (aCons (eVar 0) aNil)))) (sSet 2 (eIx (eVar 0) (eVar 1))) sNext) (sSeq (sSet 3 sa3) (sSeq (sSet 4 sa4) (sRet sa5)))) := rfl
  unfold m__law_stream
  rw [hb, mFn_run, runS_set]
  rw [show eK (.int 0) (ent 5 [.scr ns, .int k]) = pure (.int 0) from rfl, bind_pure']
  rw [show (ent 5 [.scr ns, .int k]).set 2 (some (.val (.int 0))) = [some (.val (.scr ns)), some (.val (.int k)), some (.val (.int 0)), none, none] from rfl]
  rw [runS_ifS, ht, bind_pure']
  by_cases h : (k : Int) < ((ns.map D.int).length : Nat)
  · rw [decide_eq_true h, if_t, runS_set, hx]
    have hk' : k < (ns.map D.int).length := by omega
    obtain ⟨c, hc⟩ : ∃ c : Int, (ns.map D.int)[k]? = some (.int c) := by
      rw [List.length_map] at hk'
      exact ⟨ns[k], by rw [List.getElem?_map, List.getElem?_eq_getElem hk']; rfl⟩
    rw [DL.atI_nat hc, opt_some]
    rw [show ([some (.val (.scr ns)), some (.val (.int k)), some (.val (.int 0)), none, none] : LE).set 2 (some (.val (.int c))) = [some (.val (.scr ns)), some (.val (.int k)), some (.val (.int c)), none, none] from rfl]
    exact key c
  · rw [decide_eq_false h, if_f, runS_next]
    exact key 0
end Lw
set_option Elab.async false
set_option linter.all false
set_option maxRecDepth 100000
set_option maxHeartbeats 2000000
namespace Lw
open PySem L2 DL
/-! ### reprs of deeds -/
theorem nice_int {m : Int} (h : okM m) : niceP (.int m) = true := by
  have h1 : m.natAbs < 2 ^ 64 := by have := h.1; have := h.2; omega
  have l1 : m.natAbs.log2 < 64 := by
    by_cases q : m.natAbs = 0
    · rw [q]; decide
    · exact (Nat.log2_lt q).mpr h1
  have s1 : (PyData.shown (.int m)).length ≤ 20 := by
    show (toString m : Str).length ≤ 20
    rw [len_cs, cs_int]
    have := (sg_len h).1
    omega
  have w1 : PyData.weight (.int m) ≤ 200 := by
    show (if m == 0 then 0 else m.natAbs.log2 + 1) ≤ 200
    split <;> omega
  have sh : (PyData.int m).showable = true := decide_eq_true (by omega)
  have ls : (PyData.int m).leavesShort 20 = true := decide_eq_true s1
  unfold niceP
  rw [ls, sh, decide_eq_true w1]
  rfl
theorem nice_str {z : Str} (h : ∀ c ∈ cs z, c < 128) (hl : (cs z).length ≤ 20) : niceP (.str z) = true := by
  have a1 : (cs z).all (fun c => decide (c < 16 ^ 8)) = true := List.all_eq_true.mpr fun c hc => decide_eq_true (by have := h c hc; omega)
  have a2 : PyData.strOk z = true := by
    unfold PyData.strOk
    rw [← Array.all_toList]
    exact List.all_eq_true.mpr fun c hc => decide_eq_true (by have := h c hc; omega)
  have w1 : PyData.weight (.str z) ≤ 200 := by
    show z.length ≤ 200
    rw [len_cs]
    omega
  have ls : (PyData.str z).leavesShort 20 = true := a1
  have sp : SeqAt.shaped (PyData.str z) = true := by
    show (PyData.strOk z && decide (0 ≤ 64)) = true
    rw [a2]
    rfl
  unfold niceP
  rw [ls, sp, decide_eq_true w1]
  rfl
/-- a tuple of few nice things, none of them deep or heavy -/
theorem nice_tup {ps : List PyData} (h : ∀ p ∈ ps, niceP p = true ∧ p.depth = 0 ∧ p.weight ≤ 64) (hw : PyData.weightAll ps ≤ 200) : niceP (.tuple ps) = true := by
  have k := niceL fun p hp => (h p hp).1
  have d0 : PyData.depthAll ps ≤ 1 := by
    have : ∀ l : List PyData, (∀ p ∈ l, p.depth = 0) → PyData.depthAll l = 0 := fun l => by
      induction l with
      | nil => intro _; rfl
      | cons x r ih =>
        intro hh
        simp only [PyData.depthAll, hh x (by simp), ih fun y hy => hh y (List.mem_cons_of_mem _ hy)]
        rfl
    rw [this ps fun p hp => (h p hp).2.1]
    decide
  have c1 : PyData.canLayAll0 ps = true := by
    have : ∀ l : List PyData, (∀ p ∈ l, niceP p = true) → PyData.canLayAll0 l = true := fun l => by
      induction l with
      | nil => intro _; rfl
      | cons x r ih =>
        intro hh
        have q := hh x (by simp)
        unfold niceP at q
        simp only [Bool.and_eq_true, SeqAt.shaped] at q
        simp only [PyData.canLayAll0, q.2.2.2.2.2.1, ih fun y hy => hh y (List.mem_cons_of_mem _ hy), Bool.and_self]
    exact this ps fun p hp => (h p hp).1
  have l1 : (PyData.tuple ps).leavesShort 20 = true := by simp only [PyData.leavesShort]; exact k.ls
  have l2 : (PyData.tuple ps).showable = true := by simp only [PyData.showable]; exact k.sh
  have l3 : (PyData.tuple ps).depth ≤ 30 := by simp only [PyData.depth]; omega
  have l4 : (PyData.tuple ps).weight ≤ 200 := by simp only [PyData.weight]; exact hw
  have l5 : (PyData.tuple ps).hasDict = false := by simp only [PyData.hasDict]; exact k.hd
  have l6 : SeqAt.shaped (PyData.tuple ps) = true := by
    unfold SeqAt.shaped
    rw [Bool.and_eq_true]
    exact ⟨by simp only [PyData.canLay0]; exact c1, decide_eq_true (by omega)⟩
  unfold niceP
  rw [l1, l2, decide_eq_true l3, decide_eq_true l4, l5, l6]
  rfl
theorem w_int {m : Int} (h : okM m) : PyData.weight (.int m) ≤ 64 := by
  have h1 : m.natAbs < 2 ^ 63 := by have := h.1; have := h.2; omega
  have l1 : m.natAbs.log2 < 63 := by
    by_cases q : m.natAbs = 0
    · rw [q]; decide
    · exact (Nat.log2_lt q).mpr h1
  show (if m == 0 then 0 else m.natAbs.log2 + 1) ≤ 64
  split <;> omega
theorem w_word {z : Str} (h : isW z) : PyData.weight (.str z) ≤ 8 := by
  show z.length ≤ 8
  rw [len_cs]
  exact h.2.1
theorem nice_w {z : Str} (h : isW z) : niceP (.str z) = true := nice_str (fun c hc => by have := (h.2.2 c hc).2; omega) (by have := h.2.1; omega)
theorem nice_par : niceP (.str "parent") = true := by decide +kernel
theorem nice_look : niceP (.str "look") = true := by decide +kernel
theorem nice_ask : niceP (.str "ask") = true := by decide +kernel
theorem w_par : PyData.weight (.str "parent") = 6 := by decide +kernel
theorem w_look : PyData.weight (.str "look") = 4 := by decide +kernel
theorem w_ask : PyData.weight (.str "ask") = 3 := by decide +kernel
def optP : Option Str → PyData
  | some z => .str z
  | none => .none
theorem nice_d {e : Dd} (h : e.ok) : e.d.nice = true := by
  cases e with
  | par m =>
    have w1 := w_int h
    show niceP (.tuple [.str "parent", .int m]) = true
    refine nice_tup (fun p hp => ?_) (by simp only [PyData.weightAll, w_par]; omega)
    simp only [List.mem_cons, List.not_mem_nil, or_false] at hp
    rcases hp with rfl | rfl
    · exact ⟨nice_par, rfl, by rw [w_par]; decide⟩
    · exact ⟨nice_int h, rfl, w1⟩
  | look m z =>
    have w1 := w_int h.1
    have w2 := w_word h.2
    show niceP (.tuple [.str "look", .int m, .str z]) = true
    refine nice_tup (fun p hp => ?_) (by simp only [PyData.weightAll, w_look]; omega)
    simp only [List.mem_cons, List.not_mem_nil, or_false] at hp
    rcases hp with rfl | rfl | rfl
    · exact ⟨nice_look, rfl, by rw [w_look]; decide⟩
    · exact ⟨nice_int h.1, rfl, w1⟩
    · exact ⟨nice_w h.2, rfl, by omega⟩
  | ask m f z =>
    have w1 := w_int h.1
    have f1 := okM_small h.2.1 h.2.2.1
    have w2 := w_int f1
    have z1 : niceP (optP z) = true ∧ (optP z).depth = 0 ∧ (optP z).weight ≤ 8 := by
      cases z with
      | none => exact ⟨rfl, rfl, Nat.zero_le _⟩
      | some z => exact ⟨nice_w (h.2.2.2 z rfl), rfl, w_word (h.2.2.2 z rfl)⟩
    have e1 : (Dd.ask m f z).d.py = some (.tuple [.str "ask", .int m, .int f, optP z]) := by cases z <;> rfl
    unfold D.nice
    rw [e1]
    show niceP (.tuple [.str "ask", .int m, .int f, optP z]) = true
    refine nice_tup (fun p hp => ?_) (by have := z1.2.2; simp only [PyData.weightAll, w_ask]; omega)
    simp only [List.mem_cons, List.not_mem_nil, or_false] at hp
    rcases hp with rfl | rfl | rfl | rfl
    · exact ⟨nice_ask, rfl, by rw [w_ask]; decide⟩
    · exact ⟨nice_int h.1, rfl, w1⟩
    · exact ⟨nice_int f1, rfl, w2⟩
    · exact ⟨z1.1, z1.2.1, by have := z1.2.2; omega⟩
theorem nice_odds : odds.all D.nice = true := by decide +kernel
/-! ### a list with one odd thing is refused -/
def isD (d : D) : Bool := match m_is_deed [d] [] with
  | .ok (.bl b) _ => b
  | _ => false
theorem isD_of {d : D} {b : Bool} (h : m_is_deed [d] = pure (.bl b)) : m_is_deed [d] = pure (.bl (isD d)) ∧ isD d = b := by
  have : isD d = b := by
    unfold isD
    rw [h]
    rfl
  exact ⟨by rw [this]; exact h, this⟩
theorem odd_is {x : D} (hx : x ∈ odds) : m_is_deed [x] = pure (.bl false) := by
  obtain ⟨i, hi, rfl⟩ := List.getElem_of_mem hx
  have := congrArg (fun l => l[i]?) odds_all
  simpa [hi] using this
theorem bad_is {x : Str} (hx : x ∈ bads) : m_deed_of [.str x] = pure .non := by
  obtain ⟨i, hi, rfl⟩ := List.getElem_of_mem hx
  have := congrArg (fun l => l[i]?) bads_all
  simpa [hi] using this
theorem refused_odd {es fs : List Dd} {x : D} (he : ∀ e ∈ es, e.ok) (hf : ∀ e ∈ fs, e.ok) (hx : x ∈ odds) (hl : es.length + fs.length ≤ 50) : m__law_refused [.lst (es.map Dd.d ++ [x] ++ fs.map Dd.d)] = pure (.bl true) := by
  have mem : ∀ d ∈ es.map Dd.d ++ [x] ++ fs.map Dd.d, (∃ e : Dd, e.ok ∧ d = e.d) ∨ d = x := fun d hd => by
    rcases List.mem_append.mp hd with hd | hd
    · rcases List.mem_append.mp hd with hd | hd
      · obtain ⟨e, q, rfl⟩ := List.mem_map.mp hd
        exact .inl ⟨e, he e q, rfl⟩
      · exact .inr (by simpa using hd)
    · obtain ⟨e, q, rfl⟩ := List.mem_map.mp hd
      exact .inl ⟨e, hf e q, rfl⟩
  have len : (es.map Dd.d ++ [x] ++ fs.map Dd.d).length = es.length + 1 + fs.length := by simp; omega
  obtain ⟨ps, _, hr⟩ := repr_lst (ds := es.map Dd.d ++ [x] ++ fs.map Dd.d) (fun d hd => by
    rcases mem d hd with ⟨e, q, rfl⟩ | rfl
    · exact nice_d q
    · exact List.all_eq_true.mp nice_odds _ hx) (by omega)
  refine refused_ok (format_bad (f := isD) (fun d hd => ?_) (by omega) ?_) hr
  · rcases mem d hd with ⟨e, q, rfl⟩ | rfl
    · exact (isD_of (is_deed_ok q)).1
    · exact (isD_of (odd_is hx)).1
  · rw [List.all_append, List.all_append]
    have : [x].all isD = false := by
      show (isD x && true) = false
      rw [(isD_of (odd_is hx)).2]
      rfl
    rw [this]
    simp
end Lw
set_option Elab.async false
set_option linter.all false
set_option maxRecDepth 100000
set_option maxHeartbeats 2000000
namespace Lw
open PySem L2 DL
/-! ### lines joined to a text -/
theorem joinL_mem {c a : Nat} : ∀ ps : List (List Nat), a ∈ TL.joinL [c] ps → a = c ∨ ∃ p ∈ ps, a ∈ p
  | [], h => by cases h
  | [p], h => .inr ⟨p, by simp, h⟩
  | p :: q :: r, h => by
    have h' : a ∈ p ++ ([c] ++ TL.joinL [c] (q :: r)) := h
    rcases List.mem_append.mp h' with h' | h'
    · exact .inr ⟨p, by simp, h'⟩
    · rcases List.mem_append.mp h' with h' | h'
      · exact .inl (by simpa using h')
      · rcases joinL_mem (q :: r) h' with h' | ⟨x, hx, hm⟩
        · exact .inl h'
        · exact .inr ⟨x, List.mem_cons_of_mem _ hx, hm⟩
theorem joinL_le (c n : Nat) : ∀ ps : List (List Nat), (∀ p ∈ ps, p.length ≤ n) → (TL.joinL [c] ps).length ≤ ps.length * (n + 1)
  | [], _ => Nat.zero_le _
  | [p], h => by
    have := h p (by simp)
    show p.length ≤ 1 * (n + 1)
    omega
  | p :: q :: r, h => by
    have h1 := h p (by simp)
    have ih := joinL_le c n (q :: r) fun x hx => h x (List.mem_cons_of_mem _ hx)
    show (p ++ ([c] ++ TL.joinL [c] (q :: r))).length ≤ _
    rw [List.length_append, List.length_append, List.length_singleton]
    have : (p :: q :: r).length * (n + 1) = (q :: r).length * (n + 1) + (n + 1) := by rw [List.length_cons, Nat.succ_mul]
    omega
theorem cs_text (ws : List Str) : cs (Txt.join "\n" ws) = TL.joinL [10] (ws.map cs) := by
  rw [TL.join_eq]
  exact TL.tl_join "\n" ws
/-- lines as they may stand in a text -/
def okL (w : Str) : Prop := 10 ∉ cs w ∧ (cs w).length ≤ 100
theorem okL_line {e : Dd} (h : e.ok) : okL e.line := by
  refine ⟨fun q => ?_, by have := line_len h; rw [len_cs] at this; exact this⟩
  unfold Dd.line at q
  rw [cs_line] at q
  rcases joinL_mem _ q with q | ⟨p, hp, q⟩
  · cases q
  · obtain ⟨w, hw, rfl⟩ := List.mem_map.mp hp
    have := (words_okW h w hw).2 10 q
    omega
theorem okL_bads : bads.all (fun w => decide (10 ∉ cs w) && decide ((cs w).length ≤ 100)) = true := by decide +kernel
theorem okL_bad {w : Str} (h : w ∈ bads) : okL w := by
  have := List.all_eq_true.mp okL_bads w h
  rw [Bool.and_eq_true] at this
  exact ⟨of_decide_eq_true this.1, of_decide_eq_true this.2⟩
theorem str_nil {z : Str} : z = "" ↔ cs z = [] := ⟨fun h => by rw [h]; rfl, fun h => TL.ext_tl h⟩
theorem text_ok {ws : List Str} (hn : ws ≠ []) (h1 : ws ≠ [("" : Str)]) (ho : ∀ w ∈ ws, okL w) (hl : ws.length ≤ 100) : Txt.join "\n" ws ≠ "" ∧ (Txt.join "\n" ws).length ≤ 1000000 ∧ Txt.split (Txt.join "\n" ws) "\n" = ws := by
  refine ⟨fun q => ?_, ?_, ?_⟩
  · rw [str_nil, cs_text] at q
    match ws, hn, h1 with
    | [w], _, h1 =>
      have q' : cs w = [] := q
      exact h1 (by rw [str_nil.mpr q'])
    | w :: v :: r, _, _ =>
      have q' : cs w ++ ([10] ++ TL.joinL [10] (cs v :: r.map cs)) = [] := q
      simp at q'
  · rw [len_cs, cs_text]
    have h2 := joinL_le 10 100 (ws.map cs) fun p hp => by
      obtain ⟨w, hw, rfl⟩ := List.mem_map.mp hp
      exact (ho w hw).2
    rw [List.length_map] at h2
    have : ws.length * (100 + 1) ≤ 100 * 101 := Nat.mul_le_mul_right _ hl
    omega
  · exact TL.split_join (s := 10) (S := []) (by decide +kernel) (by decide +kernel) hn fun w hw => (ho w hw).1
theorem line_ne {e : Dd} (h : e.ok) : e.line ≠ "" := fun q => by
  have s1 := split_line h
  rw [q] at s1
  have s2 : Txt.split ("" : Str) " " = [("" : Str)] := by decide +kernel
  rw [s2] at s1
  have := (words_len e).1
  rw [← s1] at this
  exact absurd this (by decide)
theorem lines_ne {es : List Dd} (h : ∀ e ∈ es, e.ok) : es.map Dd.line ≠ [("" : Str)] := by
  cases es with
  | nil => intro q; cases q
  | cons e r => intro q; exact line_ne (h e (by simp)) (List.cons.inj q).1
theorem parse_nil1 {z : Str} (hz : z = "") : m_parse_deeds [.str z] = loopR pG pB pN [] [some (.val (.str z)), some (.own (.lst [])), none, none, none] := by
  unfold m_parse_deeds b_parse_deeds
  rw [mFn_run, runS_ifS, ite_bind_f (by kernel_rfl), runS_next, runS_own]
  show runS (sSeq (sFor _ pG pB) pN) [some (.val (.str z)), some (.own (.lst [])), none, none, none] = _
  rw [runS_for]
  have t : eVar 0 [some (.val (.str z)), some (.own (.lst [])), none, none, none] = pure (.str z) := rfl
  unfold iEnumM eIf tOf eBin
  simp only [t, eK, bind_assoc', bind_pure', oNeS_str, asB_bl]
  rw [decide_eq_true hz]
  simp only [Bool.not_true, if_f]
  rfl
theorem parse_nil0 : m_parse_deeds [.str ""] = loopR pG pB pN [] [some (.val (.str "")), some (.own (.lst [])), none, none, none] := parse_nil1 rfl
theorem parse_nil (s : S) : m_parse_deeds [.str ""] s = .ok (.loc s.length) (s ++ [some (.lst [])]) := by
  rw [parse_nil0]
  exact loop_end _ _ _ _ _ s
theorem parse_good {es : List Dd} (h : ∀ e ∈ es, e.ok) (hl : es.length ≤ 100) (s : S) : m_parse_deeds [.str (Txt.join "\n" (es.map Dd.line))] s = .ok (.loc s.length) (s ++ [some (.lst (es.map Dd.d))]) := by
  by_cases hn : es = []
  · subst hn
    exact parse_nil s
  · have hn' : es.map Dd.line ≠ [] := by simpa using hn
    obtain ⟨t1, t2, t3⟩ := text_ok (ws := es.map Dd.line) hn' (lines_ne h) (fun w hw => by
      obtain ⟨e, he, rfl⟩ := List.mem_map.mp hw
      exact okL_line (h e he)) (by rw [List.length_map]; exact hl)
    rw [parse_eq t1 t2, t3]
    obtain ⟨b, c, d, q⟩ := loop_good es [] 0 (some (.val (.str (Txt.join "\n" (es.map Dd.line))))) none none none [] s h (by show 0 + es.length ≤ 1000; omega)
    rw [List.append_nil] at q
    rw [q]
    exact loop_end _ _ _ _ _ s
theorem parse_bad {es : List Dd} {z : Str} {rest : List Str} (h : ∀ e ∈ es, e.ok) (hz : z ∈ bads) (hr : ∀ w ∈ rest, okL w) (hl : es.length + 1 + rest.length ≤ 100) (h1 : es.map Dd.line ++ [z] ++ rest ≠ [("" : Str)]) (s : S) :
    m_parse_deeds [.str (Txt.join "\n" (es.map Dd.line ++ [z] ++ rest))] s = .exc (.own 2) [("line", .int es.length)] s := by
  obtain ⟨t1, t2, t3⟩ := text_ok (ws := es.map Dd.line ++ [z] ++ rest) (by simp) h1 (fun w hw => by
    rcases List.mem_append.mp hw with hw | hw
    · rcases List.mem_append.mp hw with hw | hw
      · obtain ⟨e, he, rfl⟩ := List.mem_map.mp hw
        exact okL_line (h e he)
      · have : w = z := by simpa using hw
        subst this
        exact okL_bad hz
    · exact hr w hw) (by simp; omega)
  rw [parse_eq t1 t2, t3]
  obtain ⟨b, c, d, q⟩ := loop_good es (.str z :: rest.map .str) 0 (some (.val (.str (Txt.join "\n" (es.map Dd.line ++ [z] ++ rest))))) none none none [] s h (by show 0 + es.length ≤ 1000; omega)
  have e1 : (es.map Dd.line ++ [z] ++ rest).map D.str = (es.map Dd.line).map .str ++ (.str z :: rest.map .str) := by simp
  rw [e1, q, Nat.zero_add]
  exact loop_bad (bad_is hz) _ es.length _ _ _ _ _ s
end Lw
set_option Elab.async false
set_option linter.all false
set_option maxRecDepth 100000
set_option maxHeartbeats 2000000
namespace Lw
open PySem L2 DL
/-- the slots of the law's def in its loop -/
abbrev e16 (ns : List Int) (a b c d e f g h i j k l m : Option SD) : LE := [some (.val (.scr ns)), some (.val (.lst odds)), some (.val (.lst (bads.map .str))), a, b, c, d, e, f, g, h, i, j, k, l, m]
def InvL (ns : List Int) (e : LE) (_ : S) : Prop := ∃ a b c d f g h i j k l m n, e = e16 ns a b c d f g h i j k l m n
theorem St.push {n : Nat} {s : S} {o : Option O} (h : St n s) : St n (s ++ [o]) := by
  obtain ⟨a, b, h1, h2, h3⟩ := h
  exact ⟨a, b, h1, h2, by rw [List.getElem?_append_left (List.getElem?_eq_some_iff.mp h3).1]; exact h3⟩
theorem St.lt {n : Nat} {s : S} (h : St n s) : n < s.length := by
  obtain ⟨a, b, h1, h2, h3⟩ := h
  exact (List.getElem?_eq_some_iff.mp h3).1
theorem St.put {n m : Nat} {s : S} {o : Option O} (h : St n s) (hm : m ≠ n) : St n (s.set m o) := by
  obtain ⟨a, b, h1, h2, h3⟩ := h
  exact ⟨a, b, h1, h2, by rw [List.getElem?_set_ne hm]; exact h3⟩
/-- the deeds that are drawn -/
theorem deeds_drawn {n : Nat} {env : LE} {zs : List Str} (h4 : ∀ x, ((env.set 6 none).set 6 x)[4]? = some (some (.val (.loc n)))) (h4' : env[4]? = some (some (.val (.loc n)))) (h5 : ∀ x, ((env.set 6 none).set 6 x)[5]? = some (some (.val (.lst (zs.map .str))))) (h0 : zs ≠ []) (hl : zs.length ≤ 10) (hz : ∀ z ∈ zs, isW z) :
    Tr (St n) (nLc (iRg1 (eCall 2 m__law_draw [] (aCons (eVar 4) (aCons (eK (.int 16)) aNil)))) (gN 6) tTrue (eCall 2 m__law_deed [] (aCons (eVar 4) (aCons (eVar 5) aNil))) [6] env) (fun o => ∃ es : List Dd, o = .lst (es.map Dd.d) ∧ es.length ≤ 15 ∧ ∀ e ∈ es, e.ok) := by
  have v4 : eVar 4 env = pure (.loc n) := by unfold eVar; rw [h4']
  have hr : Tr (St n) (iRg1 (eCall 2 m__law_draw [] (aCons (eVar 4) (aCons (eK (.int 16)) aNil))) env) (fun ds => (ds.length : Int) < 16) := by
    unfold iRg1 eCall
    simp only [aCons, aNil, eK, bind_assoc', bind_pure']
    rw [v4]
    simp only [bind_pure', List.append_nil]
    refine Tr.bind (Tr.guard (P := fun _ => True) (by rfl) trivial) fun _ _ => ?_
    refine Tr.bind (draw_ok n 16 (by decide) (by decide)) fun d hd => ?_
    obtain ⟨i, rfl, h1, h2⟩ := hd
    refine Tr.bind (P := fun j => j = i) (Tr.opt rfl rfl) fun j hj => ?_
    subst hj
    refine Tr.bind (Tr.guard (P := fun _ => True) (by unfold rgOk; rw [decide_eq_true (by omega), decide_eq_true (by omega)] <;> rfl) trivial) fun _ _ => ?_
    refine Tr.pure ?_
    unfold rangeD
    simp
    omega
  unfold nLc
  refine Tr.bind hr fun ds hds => ?_
  refine Tr.bind (Tr.noX (Tr.lc (P := fun d => ∃ e : Dd, d = e.d ∧ e.ok) ds [] (fun d _ => ⟨_, rfl, ?_⟩) (by simp; omega))) fun r hr => ?_
  · unfold eCall wipeE
    simp only [aCons, aNil, bind_assoc', wipeE]
    rw [show eVar 4 ((env.set 6 none).set 6 (some (.val d))) = pure (.loc n) by unfold eVar; rw [h4], show eVar 5 ((env.set 6 none).set 6 (some (.val d))) = pure (.lst (zs.map .str)) by unfold eVar; rw [h5]]
    simp only [bind_pure', List.append_nil]
    refine Tr.bind (Tr.guard (P := fun _ => True) (by rfl) trivial) fun _ _ => ?_
    exact deed_ok n zs h0 hl hz
  · obtain ⟨r1, r2⟩ := hr
    have key : ∀ l : List D, (∀ x ∈ l, ∃ e : Dd, x = e.d ∧ e.ok) → ∃ es : List Dd, l = es.map Dd.d ∧ ∀ e ∈ es, e.ok := by
      intro l
      induction l with
      | nil => exact fun _ => ⟨[], rfl, by simp⟩
      | cons x l ih =>
        intro h
        obtain ⟨e, rfl, he⟩ := h x (by simp)
        obtain ⟨es, rfl, hs⟩ := ih fun y hy => h y (List.mem_cons_of_mem _ hy)
        exact ⟨e :: es, rfl, fun y hy => by
          rcases List.mem_cons.mp hy with rfl | hy
          · exact he
          · exact hs y hy⟩
    obtain ⟨es, rfl, he⟩ := key r fun x hx => by
      rcases r2 x hx with q | q
      · cases q
      · exact q
    refine Tr.pure ⟨es, rfl, ?_, he⟩
    rw [List.length_map] at r1
    simp at r1
    omega
theorem text_sum {ws : List Str} (h : ∀ w ∈ ws, okL w) (hl : ws.length ≤ 100) : (ws.map (·.length)).sum + ws.length * ("\n" : Str).length ≤ 16777216 := by
  have h1 := sum_le (n := 100) ws fun w hw => by rw [len_cs]; exact (h w hw).2
  have : ws.length * 100 ≤ 100 * 100 := Nat.mul_le_mul_right _ hl
  show _ + ws.length * 1 ≤ _
  omega
theorem lines_ok {es : List Dd} (h : ∀ e ∈ es, e.ok) : ∀ w ∈ es.map Dd.line, okL w := fun w hw => by
  obtain ⟨e, he, rfl⟩ := List.mem_map.mp hw
  exact okL_line (h e he)
/-- a turn of the loop that reads twice -/
theorem again_ok {ns : List Int} {n : Nat} {es : List Dd} {held : Str} {ps : List PyData} (he : ∀ e ∈ es, e.ok) (hl : es.length ≤ 15) (hp : pyL (es.map Dd.d) = some ps) (hh : held = PyData.shown (.list ps)) {a c d f h j k l m x : Option SD} {s : S} (hs : St n s) :
    Wp b_law_L1 (e16 ns a (some (.val (.loc n))) c d f h (some (.val (.str held))) j (some (.val (.str (Txt.join "\n" (es.map Dd.line))))) k l m x) s (fun e t => St n t ∧ ∃ k', e = e16 ns a (some (.val (.loc n))) c d f h (some (.val (.str held))) j (some (.val (.str (Txt.join "\n" (es.map Dd.line))))) k' l m x) := by
  have hg := parse_good he (by omega) s
  have hs2 : (s ++ [some (O.lst (es.map Dd.d))])[s.length]? = some (some (.lst (es.map Dd.d))) := by rw [List.getElem?_append_right (Nat.le_refl _), Nat.sub_self]; rfl
  obtain ⟨qs, q1, q2⟩ := repr_loc hs2 (fun d hd => by
    obtain ⟨e, h1, rfl⟩ := List.mem_map.mp hd
    exact nice_d (he e h1)) (by rw [List.length_map]; omega)
  rw [hp] at q1
  cases q1
  unfold b_law_L1
  refine Wp.seq (Wp.set (d := .loc s.length) (s' := s ++ [some (O.lst (es.map Dd.d))]) (eCall1_ok (eVar_ok rfl) (told_good hg)) ?_)
  refine Wp.seq (Wp.pass (s' := s ++ [some (O.lst (es.map Dd.d))]) (tOf_ok (eBin_ok (z := .bl false) (eB1_ok (f := oRepr) (eVar_ok rfl) q2) (eVar_ok rfl) ?_)) ?_)
  · show (oNeS (.str (PyData.shown (.list ps))) (.str held)) _ = _
    rw [hh, oNeS_str, decide_eq_true rfl]
    rfl
  · have hc : clearM (.loc s.length) (s ++ [some (O.lst (es.map Dd.d))]) = .ok .non ((s ++ [some (O.lst (es.map Dd.d))]).set s.length (some (.lst []))) := by
      show (match (s ++ [some (O.lst (es.map Dd.d))])[s.length]? with
        | some (some (.lst _)) => R.ok D.non ((s ++ [some (O.lst (es.map Dd.d))]).set s.length (some (.lst [])))
        | _ => .stuck) = _
      rw [hs2]
    refine Wp.expr (M.bind_to (eVar_ok rfl) hc) ⟨?_, _, rfl⟩
    exact St.put hs.push (by have := hs.lt; omega)
theorem ne_non : oNeS (.tup [.str "no", .non, .bl true]) (.tup [.str "no", .non, .bl true]) = pure (.bl false) := by kernel_rfl
theorem no_str : PyData.strOk "no" = true := by decide +kernel
theorem ne_int (v : Int) : oNeS (.tup [.str "no", .int v, .bl true]) (.tup [.str "no", .int v, .bl true]) = pure (.bl false) := by
  have e1 : eqM (.tup [.str "no", .int v, .bl true]) (.tup [.str "no", .int v, .bl true]) = (guardM (SeqAt.shaped (.tuple [.str "no", .int v, .bool true]) && SeqAt.shaped (.tuple [.str "no", .int v, .bool true])) >>= fun _ => (pure (PyData.eqv (.tuple [.str "no", .int v, .bool true]) (.tuple [.str "no", .int v, .bool true])) : M Bool)) := rfl
  have e2 : SeqAt.shaped (.tuple [.str "no", .int v, .bool true]) = true := by
    unfold SeqAt.shaped
    simp only [PyData.canLay0, PyData.canLayAll0, PyData.depth, PyData.depthAll, no_str]
    rfl
  have e3 : PyData.eqv (.tuple [.str "no", .int v, .bool true]) (.tuple [.str "no", .int v, .bool true]) = true := by
    simp [PyData.eqv, PyData.eqvAll]
  unfold oNeS
  rw [e1, e2, e3]
  rfl
/-- what is no list, what is no text -/
theorem thing_ok {x : D} {t : Str} (h1 : m_format_deeds [x] = mRaise (.own 1) [("value", x)]) (hr : oRepr x = pure (.str t)) (h2 : ∀ s, m_parse_deeds [x] s = .exc (.own 2) [("line", .non)] s) {ns : List Int} {a b c d e f g h i j k l : Option SD} {s : S} (Q : LE → S → Prop) (hq : Q (e16 ns a b c d e f g h i j k l (some (.val x))) s) :
    Wp b_law_L2 (e16 ns a b c d e f g h i j k l (some (.val x))) s Q := by
  unfold b_law_L2
  refine Wp.pass (s' := s) (tOr_ok (s1 := s) (b := false) (tNot_ok (b := true) (tOf_ok (eCall1_ok (eVar_ok rfl) (run_ok (refused_ok h1 hr))))) (tOf_ok (eBin_ok (s1 := s) (s2 := s) (x := .tup [.str "no", .non, .bl true]) (y := .tup [.str "no", .non, .bl true]) (z := .bl false) (eCall1_ok (eVar_ok rfl) (told_bad (h2 s) rfl)) rfl (run_ok ne_non)))) hq
theorem parse_odd {ds : List D} (s : S) : m_parse_deeds [.tup ds] s = .exc (.own 2) [("line", .non)] s := rfl
theorem parse_non (s : S) : m_parse_deeds [.non] s = .exc (.own 2) [("line", .non)] s := rfl
theorem parse_int (s : S) : m_parse_deeds [.int 5] s = .exc (.own 2) [("line", .non)] s := rfl
theorem parse_dct (s : S) : m_parse_deeds [.dct []] s = .exc (.own 2) [("line", .non)] s := rfl
/-! ### lines beside the list of the empty line -/
theorem words_asc {e : Dd} (h : e.ok) : ∀ w ∈ e.words, ∀ c ∈ cs w, c < 128 := by
  have ai : ∀ m : Int, ∀ c ∈ cs (toString m : Str), c < 128 := fun m c hc => by
    rw [cs_int] at hc
    unfold sg at hc
    by_cases q : m < 0
    · rw [if_pos q] at hc
      rcases List.mem_cons.mp hc with rfl | hc
      · omega
      · have := TL.numL_digits _ _ hc; omega
    · rw [if_neg q] at hc
      have := TL.numL_digits _ _ hc; omega
  have aw : ∀ z : Str, isW z → ∀ c ∈ cs z, c < 128 := fun z hz c hc => by have := (hz.2.2 c hc).2; omega
  have a1 : ∀ c ∈ cs "parent", c < 128 := by decide +kernel
  have a2 : ∀ c ∈ cs "look", c < 128 := by decide +kernel
  have a3 : ∀ c ∈ cs "ask", c < 128 := by decide +kernel
  have a4 : ∀ c ∈ cs "-", c < 128 := by decide +kernel
  cases e with
  | par m =>
    intro w hw
    simp only [Dd.words, List.mem_cons, List.not_mem_nil, or_false] at hw
    rcases hw with rfl | rfl
    · exact a1
    · exact ai m
  | look m z =>
    intro w hw
    simp only [Dd.words, List.mem_cons, List.not_mem_nil, or_false] at hw
    rcases hw with rfl | rfl | rfl
    · exact a2
    · exact ai m
    · exact aw _ h.2
  | ask m f z =>
    intro w hw
    simp only [Dd.words, List.mem_cons, List.not_mem_nil, or_false] at hw
    rcases hw with rfl | rfl | rfl | rfl
    · exact a3
    · exact ai m
    · exact ai f
    · cases z with
      | none => exact a4
      | some z => exact aw _ (h.2.2.2 z rfl)
theorem asc_ok {z : Str} (h : ∀ c ∈ cs z, c < 128) : PyData.strOk z = true := by
  unfold PyData.strOk
  rw [← Array.all_toList]
  exact List.all_eq_true.mpr fun c hc => decide_eq_true (by have := h c hc; omega)
theorem line_asc {e : Dd} (h : e.ok) : PyData.strOk e.line = true := asc_ok fun c hc => by
  unfold Dd.line at hc
  rw [cs_line] at hc
  rcases joinL_mem _ hc with rfl | ⟨p, hp, q⟩
  · omega
  · obtain ⟨w, hw, rfl⟩ := List.mem_map.mp hp
    exact words_asc h w hw c q
theorem bads_asc : bads.all PyData.strOk = true := by decide +kernel
theorem pyL_strs : ∀ ws : List Str, pyL (ws.map .str) = some (ws.map .str)
  | [] => rfl
  | w :: r => by
    show (match some (PyData.str w), pyL (r.map .str) with | some p, some ps => some (p :: ps) | _, _ => none) = _
    rw [pyL_strs r]
    rfl
theorem canLay_strs : ∀ ws : List Str, (∀ w ∈ ws, PyData.strOk w = true) → PyData.canLayAll0 (ws.map .str) = true ∧ PyData.depthAll (ws.map .str) = 0
  | [], _ => ⟨rfl, rfl⟩
  | w :: r, h => by
    obtain ⟨h1, h2⟩ := canLay_strs r fun x hx => h x (List.mem_cons_of_mem _ hx)
    refine ⟨?_, ?_⟩
    · show (PyData.strOk w && PyData.canLayAll0 (r.map .str)) = true
      rw [h w (by simp), h1]
      rfl
    · show max 0 (PyData.depthAll (r.map .str)) = 0
      rw [h2]
      rfl
theorem eqv_strs : ∀ ws vs : List Str, PyData.eqvAll (ws.map .str) (vs.map .str) = decide (ws = vs)
  | [], [] => rfl
  | [], v :: r => rfl
  | w :: r, [] => rfl
  | w :: r, v :: q => by
    show (PyData.eqv (.str w) (.str v) && PyData.eqvAll (r.map .str) (q.map .str)) = _
    rw [eqv_strs r q]
    show ((w == v) && decide (r = q)) = _
    by_cases h1 : w = v <;> by_cases h2 : r = q <;> simp [h1, h2]
theorem ne_strs {ws vs : List Str} (h : ∀ w ∈ ws, PyData.strOk w = true) (k : ∀ w ∈ vs, PyData.strOk w = true) : oNeS (.lst (ws.map .str)) (.lst (vs.map .str)) = pure (.bl (!decide (ws = vs))) := by
  have sh : ∀ us : List Str, (∀ w ∈ us, PyData.strOk w = true) → SeqAt.shaped (.list (us.map .str)) = true := fun us hu => by
    obtain ⟨h1, h2⟩ := canLay_strs us hu
    unfold SeqAt.shaped
    rw [Bool.and_eq_true]
    exact ⟨h1, decide_eq_true (by simp only [PyData.depth]; omega)⟩
  have e0 : eqM (.lst (ws.map .str)) (.lst (vs.map .str)) = ((optM ((pyL (ws.map .str)).map PyData.list) : M PyData) >>= fun p => (optM ((pyL (vs.map .str)).map PyData.list) : M PyData) >>= fun q => guardM (SeqAt.shaped p && SeqAt.shaped q) >>= fun _ => (pure (PyData.eqv p q) : M Bool)) := rfl
  unfold oNeS
  rw [e0, pyL_strs, pyL_strs]
  show ((guardM (SeqAt.shaped (.list (ws.map .str)) && SeqAt.shaped (.list (vs.map .str))) >>= fun _ => (pure (PyData.eqv (.list (ws.map .str)) (.list (vs.map .str))) : M Bool)) >>= fun b => (pure (D.bl (!b)) : M D)) = _
  rw [sh ws h, sh vs k]
  show (pure (D.bl (!PyData.eqv (.list (ws.map .str)) (.list (vs.map .str)))) : M D) = _
  rw [show PyData.eqv (.list (ws.map .str)) (.list (vs.map .str)) = PyData.eqvAll (ws.map .str) (vs.map .str) by simp only [PyData.eqv], eqv_strs]
end Lw
set_option Elab.async false
set_option linter.all false
set_option maxRecDepth 100000
set_option maxHeartbeats 4000000
namespace Lw
open PySem L2 DL
theorem nat_of {i : Int} (h : 0 ≤ i) : ∃ k : Nat, i = k := ⟨i.toNat, by omega⟩
/-- a turn of the law -/
theorem turn_ok (ns : List Int) (k : Nat) (hk : k < 1000) (x4 x5 x6 x7 x8 x9 x10 x11 x12 x13 x14 x15 : Option SD) (s : S) :
    Wp b_law_L3 (e16 ns (some (.val (.int k))) x4 x5 x6 x7 x8 x9 x10 x11 x12 x13 x14 x15) s (InvL ns) := by
  unfold b_law_L3
  -- the stream
  obtain ⟨s1, h1, i1⟩ := stream_ok ns k hk s
  generalize s.length = n at h1 i1
  refine Wp.seq (Wp.set (d := .loc n) (s' := s1) (eCall2_ok (eVar_ok rfl) (eVar_ok rfl) h1) ?_)
  show Wp _ (e16 ns (some (.val (.int k))) (some (.val (.loc n))) x5 x6 x7 x8 x9 x10 x11 x12 x13 x14 x15) s1 (InvL ns)
  -- the names
  obtain ⟨d2, s2, h2, ⟨zs, rfl, zl, zw⟩, i2⟩ := names_ok n s1 i1
  refine Wp.seq (Wp.set (d := .lst (zs.map .str)) (s' := s2) (eCall2_ok (eVar_ok rfl) (ok_pure rfl) h2) ?_)
  show Wp _ (e16 ns (some (.val (.int k))) (some (.val (.loc n))) (some (.val (.lst (zs.map .str)))) x6 x7 x8 x9 x10 x11 x12 x13 x14 x15) s2 (InvL ns)
  -- the deeds
  have z0 : zs ≠ [] := fun q => by rw [q] at zl; cases zl
  obtain ⟨o3, s3, h3, ⟨es, rfl, el, he⟩, i3⟩ := deeds_drawn (n := n) (env := e16 ns (some (.val (.int k))) (some (.val (.loc n))) (some (.val (.lst (zs.map .str)))) x6 x7 x8 x9 x10 x11 x12 x13 x14 x15) (fun _ => rfl) rfl (fun _ => rfl) z0 (by omega) zw s2 i2
  refine Wp.seq (Wp.own h3 ?_)
  show Wp _ (e16 ns (some (.val (.int k))) (some (.val (.loc n))) (some (.val (.lst (zs.map .str)))) x6 (some (.own (.lst (es.map Dd.d)))) x8 x9 x10 x11 x12 x13 x14 x15) s3 (InvL ns)
  -- held, lines
  have nd : ∀ d ∈ es.map Dd.d, d.nice = true := fun d hd => by
    obtain ⟨e, h, rfl⟩ := List.mem_map.mp hd
    exact nice_d (he e h)
  obtain ⟨ps, hp, hr⟩ := repr_lst nd (by rw [List.length_map]; omega)
  have hlines : ∀ env : LE, env[7]? = some (some (.val (.lst (es.map Dd.d)))) → 8 < env.length → eFrz (nLc (DL.iItems (eVar 7)) (gN 8) tTrue (eCall 1 m__law_line [] (aCons (eVar 8) aNil)) [8]) env = pure (.lst (es.map fun e => .str e.line)) := fun env h7 h8 => by
    unfold eFrz
    rw [nLc_map (F := Dd.d) (G := fun e => .str e.line) (xs := es)]
    · rfl
    · unfold DL.iItems eVar
      rw [h7]
      rfl
    · intro e hm
      refine ⟨_, rfl, ?_⟩
      have g8 : (((wipeE env [8]).set 8 (some (.val e.d))))[8]? = some (some (.val e.d)) := by
        show (((env.set 8 none).set 8 (some (.val e.d))))[8]? = _
        rw [List.getElem?_set_self (by rw [List.length_set]; exact h8)]
      funext t
      exact eCall1_ok (eVar_ok g8) (run_ok (law_line_ok (he e hm)))
    · omega
  have e10 : (es.map fun e => D.str e.line) = (es.map Dd.line).map .str := by rw [List.map_map]; rfl
  obtain ⟨held, hheld⟩ : ∃ z, PyData.shown (.list ps) = z := ⟨_, rfl⟩
  rw [hheld] at hr
  refine Wp.seq (Wp.frz (Wp.par (d := .str held) (e := .lst ((es.map Dd.line).map .str)) (s' := s3) (aCons_ok (s1 := s3) ?_ (aCons_ok (s1 := s3) ?_ aNil_ok)) ?_))
  · exact eB1_ok (f := oRepr) (x := .lst (es.map Dd.d)) (s1 := s3) (eVar_ok rfl) (run_ok hr)
  · rw [← e10]
    exact ok_pure (hlines _ rfl (by show 8 < 16; decide))
  show Wp _ (e16 ns (some (.val (.int k))) (some (.val (.loc n))) (some (.val (.lst (zs.map .str)))) x6 (some (.val (.lst (es.map Dd.d)))) x8 (some (.val (.str held))) (some (.val (.lst ((es.map Dd.line).map .str)))) x11 x12 x13 x14 x15) s3 (InvL ns)
  -- the text
  have lo := lines_ok he
  have jt : ∀ env : LE, env[10]? = some (some (.val (.lst ((es.map Dd.line).map .str)))) → eJoin (eK (.str "\n")) (eVar 10) env = pure (.str (Txt.join "\n" (es.map Dd.line))) := fun env h => by
    refine eJoin_ok rfl ?_ (text_sum lo (by rw [List.length_map]; omega)) (strsOf_map _)
    unfold eVar
    rw [h]
  refine Wp.seq (Wp.set (d := .str (Txt.join "\n" (es.map Dd.line))) (s' := s3) (ok_pure (jt _ rfl)) ?_)
  show Wp _ (e16 ns (some (.val (.int k))) (some (.val (.loc n))) (some (.val (.lst (zs.map .str)))) x6 (some (.val (.lst (es.map Dd.d)))) x8 (some (.val (.str held))) (some (.val (.lst ((es.map Dd.line).map .str)))) (some (.val (.str (Txt.join "\n" (es.map Dd.line))))) x12 x13 x14 x15) s3 (InvL ns)
  -- format
  have sne : ∀ z : Str, oNeS (.str z) (.str z) = pure (.bl false) := fun z => by
    rw [oNeS_str, decide_eq_true rfl]
    rfl
  refine Wp.seq (Wp.pass (s' := s3) (tOr_ok (s1 := s3) (b := false) (tOf_ok (eBin_ok (s1 := s3) (s2 := s3) (z := .bl false) (eCall1_ok (eVar_ok rfl) (run_ok (format_ok he (by omega)))) (eVar_ok rfl) (run_ok (sne _)))) (tOf_ok (eBin_ok (s1 := s3) (s2 := s3) (z := .bl false) (eB1_ok (f := oRepr) (x := .lst (es.map Dd.d)) (s1 := s3) (eVar_ok rfl) (run_ok hr)) (eVar_ok rfl) (run_ok (sne _))))) ?_)
  -- twice
  refine Wp.seq (Wp.for (ds := [.int 0, .int 1]) (s' := s3) rfl ?_)
  refine Wp.each (I := fun e t => St n t ∧ ∃ y6 y12, e = e16 ns (some (.val (.int k))) (some (.val (.loc n))) (some (.val (.lst (zs.map .str)))) y6 (some (.val (.lst (es.map Dd.d)))) x8 (some (.val (.str held))) (some (.val (.lst ((es.map Dd.line).map .str)))) (some (.val (.str (Txt.join "\n" (es.map Dd.line))))) y12 x13 x14 x15) _ ⟨i3, _, _, rfl⟩ (fun d _ e t hI => ?_) fun e t hI => ?_
  · obtain ⟨it, y6, y12, rfl⟩ := hI
    refine ⟨_, rfl, (again_ok he el hp hheld.symm it).imp fun e' t' hq => ?_⟩
    obtain ⟨q1, k', rfl⟩ := hq
    exact ⟨q1, _, k', rfl⟩
  obtain ⟨i4, y6, y12, rfl⟩ := hI
  -- the place
  obtain ⟨d5, s5, h5, ⟨j, rfl, j0, j1⟩, i5⟩ := draw_ok n ((es.map Dd.d).length + 1) (by omega) (by rw [List.length_map]; omega) t i4
  obtain ⟨a, rfl⟩ := nat_of j0
  have ha : a ≤ es.length := by rw [List.length_map] at j1; omega
  refine Wp.seq (Wp.set (d := .int a) (s' := s5) (eCall2_ok (s1 := t) (s2 := t) (x := .loc n) (y := .int ((es.map Dd.d).length + 1)) (eVar_ok rfl) (eBin_ok (s1 := t) (s2 := t) (x := .int (es.map Dd.d).length) (y := .int 1) (eB1_ok (f := oLen) (x := .lst (es.map Dd.d)) (s1 := t) (eVar_ok rfl) rfl) (ok_pure rfl) rfl) h5) ?_)
  show Wp _ (e16 ns (some (.val (.int k))) (some (.val (.loc n))) (some (.val (.lst (zs.map .str)))) y6 (some (.val (.lst (es.map Dd.d)))) x8 (some (.val (.str held))) (some (.val (.lst ((es.map Dd.line).map .str)))) (some (.val (.str (Txt.join "\n" (es.map Dd.line))))) y12 (some (.val (.int a))) x14 x15) s5 (InvL ns)
  -- one odd
  obtain ⟨od, s6, h6, om, i6⟩ := choose_ok n odds (by simp [odds]) (by simp [odds]) s5 i5
  have szm : ∀ m : Nat, m ≤ 1000 → szOk m = true := fun m h => decide_eq_true (by omega)
  have oaL : ∀ xs ys : List D, xs.length + ys.length ≤ 1000 → oAdd (.lst xs) (.lst ys) = pure (.lst (xs ++ ys)) := fun xs ys h => by
    show (guardM (szOk (xs.length + ys.length)) >>= fun _ => (pure (D.lst (xs ++ ys)) : M D)) = _
    rw [guard_true (szm _ h)]
  have slL : ∀ (xs : List D) (lo hi : Option Int) (t : S), oSl (.lst xs) lo hi t = .ok (.lst (cutD xs lo hi)) t := fun _ _ _ _ => rfl
  have cl1 : (cutD (es.map Dd.d) none (some (a : Int))).length ≤ 100 := by rw [Lw.cut_to]; simp; omega
  have cl2 : (cutD (es.map Dd.d) (some (a : Int)) none).length ≤ 100 := by rw [Lw.cut_from]; simp; omega
  have ef : cutD (es.map Dd.d) none (some (a : Int)) ++ [od] ++ cutD (es.map Dd.d) (some (a : Int)) none = (es.take a).map Dd.d ++ [od] ++ (es.drop a).map Dd.d := by
    rw [Lw.cut_to, Lw.cut_from, List.map_take, List.map_drop]
  have hrf := refused_odd (es := es.take a) (fs := es.drop a) (fun e h => he e (List.mem_of_mem_take h)) (fun e h => he e (List.mem_of_mem_drop h)) om (by simp; omega)
  rw [← ef] at hrf
  refine Wp.seq (Wp.pass (s' := s6) (tNot_ok (b := true) (tOf_ok (eCall1_ok (s1 := s6) (eBin_ok (s1 := s6) (s2 := s6) (x := .lst (cutD (es.map Dd.d) none (some (a : Int)) ++ [od])) (y := .lst (cutD (es.map Dd.d) (some (a : Int)) none)) (eBin_ok (s1 := s5) (s2 := s6) (x := .lst (cutD (es.map Dd.d) none (some (a : Int)))) (y := .lst [od]) (eSl_ok (s1 := s5) (s2 := s5) (s3 := s5) (eVar_ok rfl) pNone_ok (pSome_ok (eVar_ok rfl)) (slL _ _ _ _)) (eFrz_ok (nLst_ok (aCons_ok (s1 := s6) (eCall2_ok (s1 := s5) (s2 := s5) (eVar_ok rfl) (eVar_ok rfl) h6) aNil_ok) (by simp))) (run_ok (oaL _ _ (by simp; omega)))) (eSl_ok (s1 := s6) (s2 := s6) (s3 := s6) (eVar_ok rfl) (pSome_ok (eVar_ok rfl)) pNone_ok (slL _ _ _ _)) (run_ok (oaL _ _ (by simp; omega)))) (run_ok hrf)))) ?_)
  -- one bad line
  obtain ⟨bd, s7, h7, bm, i7⟩ := choose_ok n (bads.map .str) (by simp [bads]) (by simp [bads]) s6 i6
  obtain ⟨bz, bm', rfl⟩ := List.mem_map.mp bm
  obtain ⟨d8, s8, h8, ⟨u, rfl, u0, u1⟩, i8⟩ := draw_ok n 2 (by decide) (by decide) s7 i7
  obtain ⟨v, rfl⟩ := nat_of u0
  have ll : ((es.map Dd.line).map D.str).length = es.length := by simp
  have gl1 : (cutD ((es.map Dd.line).map D.str) none (some (a : Int))).length ≤ 100 := by rw [Lw.cut_to]; simp; omega
  have gl2 : (cutD ((es.map Dd.line).map D.str) (some ((a : Int) + (v : Int))) none).length ≤ 100 := by
    rw [show (a : Int) + (v : Int) = ((a + v : Nat) : Int) by simp, Lw.cut_from]; simp; omega
  have eg : cutD ((es.map Dd.line).map D.str) none (some (a : Int)) ++ [D.str bz] ++ cutD ((es.map Dd.line).map D.str) (some ((a : Int) + (v : Int))) none = ((es.take a).map Dd.line ++ [bz] ++ (es.drop (a + v)).map Dd.line).map .str := by
    rw [Lw.cut_to, show (a : Int) + (v : Int) = ((a + v : Nat) : Int) by simp, Lw.cut_from]
    simp
  refine Wp.seq (Wp.set (d := .lst (((es.take a).map Dd.line ++ [bz] ++ (es.drop (a + v)).map Dd.line).map .str)) (s' := s8) (eBin_ok (s1 := s7) (s2 := s8) (x := .lst (cutD ((es.map Dd.line).map D.str) none (some (a : Int)) ++ [D.str bz])) (y := .lst (cutD ((es.map Dd.line).map D.str) (some ((a : Int) + (v : Int))) none)) (eBin_ok (s1 := s6) (s2 := s7) (x := .lst (cutD ((es.map Dd.line).map D.str) none (some (a : Int)))) (y := .lst [D.str bz]) (eSl_ok (s1 := s6) (s2 := s6) (s3 := s6) (eVar_ok rfl) pNone_ok (pSome_ok (eVar_ok rfl)) (slL _ _ _ _)) (eFrz_ok (nLst_ok (aCons_ok (s1 := s7) (eCall2_ok (s1 := s6) (s2 := s6) (eVar_ok rfl) (eVar_ok rfl) h7) aNil_ok) (by simp))) (run_ok (oaL _ _ (by rw [List.length_singleton]; omega)))) (eSl_ok (s1 := s7) (s2 := s8) (s3 := s8) (eVar_ok rfl) (pSome_ok (eBin_ok (s1 := s7) (s2 := s8) (x := .int a) (y := .int v) (eVar_ok rfl) (eCall2_ok (s1 := s7) (s2 := s7) (eVar_ok rfl) (ok_pure rfl) h8) rfl)) pNone_ok (slL _ _ _ _)) ?_) ?_)
  · rw [← eg]
    exact run_ok (oaL _ _ (by rw [List.length_append, List.length_singleton]; omega))
  show Wp _ (e16 ns (some (.val (.int k))) (some (.val (.loc n))) (some (.val (.lst (zs.map .str)))) y6 (some (.val (.lst (es.map Dd.d)))) x8 (some (.val (.str held))) (some (.val (.lst ((es.map Dd.line).map .str)))) (some (.val (.str (Txt.join "\n" (es.map Dd.line))))) y12 (some (.val (.int a))) (some (.val (.lst (((es.take a).map Dd.line ++ [bz] ++ (es.drop (a + v)).map Dd.line).map .str)))) x15) s8 (InvL ns)
  obtain ⟨ws, hws⟩ : ∃ ws, (es.take a).map Dd.line ++ [bz] ++ (es.drop (a + v)).map Dd.line = ws := ⟨_, rfl⟩
  have okT : ∀ e ∈ es.take a, e.ok := fun e h => he e (List.mem_of_mem_take h)
  have okD : ∀ e ∈ es.drop (a + v), e.ok := fun e h => he e (List.mem_of_mem_drop h)
  have wl : ws.length ≤ 100 := by rw [← hws]; simp; omega
  have mem : ∀ w ∈ ws, (∃ e : Dd, e.ok ∧ w = e.line) ∨ w = bz := fun w hw => by
    rw [← hws] at hw
    rcases List.mem_append.mp hw with hw | hw
    · rcases List.mem_append.mp hw with hw | hw
      · obtain ⟨e, h, rfl⟩ := List.mem_map.mp hw
        exact .inl ⟨e, okT e h, rfl⟩
      · exact .inr (by simpa using hw)
    · obtain ⟨e, h, rfl⟩ := List.mem_map.mp hw
      exact .inl ⟨e, okD e h, rfl⟩
  have asc : ∀ w ∈ ws, PyData.strOk w = true := fun w hw => by
    rcases mem w hw with ⟨e, h, rfl⟩ | rfl
    · exact line_asc h
    · exact List.all_eq_true.mp bads_asc _ bm'
  have wok : ∀ w ∈ ws, okL w := fun w hw => by
    rcases mem w hw with ⟨e, h, rfl⟩ | rfl
    · exact okL_line h
    · exact okL_bad bm'
  have hne := ne_strs (ws := ws) (vs := [""]) asc (by decide +kernel)
  have pbad : ws ≠ [("" : Str)] → ∀ t, m_parse_deeds [.str (Txt.join "\n" ws)] t = .exc (.own 2) [("line", .int a)] t := fun q t => by
    have := parse_bad (es := es.take a) (z := bz) (rest := (es.drop (a + v)).map Dd.line) okT bm' (lines_ok okD) (by simp; omega) (by rw [hws]; exact q) t
    rw [hws, List.length_take, Nat.min_eq_left ha] at this
    exact this
  rw [hws]
  have jw : ∀ env : LE, env[14]? = some (some (.val (.lst (ws.map .str)))) → eJoin (eK (.str "\n")) (eVar 14) env = pure (.str (Txt.join "\n" ws)) := fun env h => by
    refine eJoin_ok rfl ?_ (text_sum wok wl) (strsOf_map _)
    unfold eVar
    rw [h]
  refine Wp.seq (Wp.pass (s' := s8) ?_ ?_)
  · by_cases q : ws = [("" : Str)]
    · refine tAnd_f (tOf_ok (eBin_ok (s1 := s8) (s2 := s8) (x := .lst (ws.map .str)) (y := .lst (([("" : Str)]).map .str)) (z := .bl false) (eVar_ok rfl) (ok_pure rfl) (run_ok ?_)))
      rw [hne, decide_eq_true q]
      rfl
    · refine tAnd_ok (s1 := s8) (tOf_ok (eBin_ok (s1 := s8) (s2 := s8) (x := .lst (ws.map .str)) (y := .lst (([("" : Str)]).map .str)) (z := .bl true) (eVar_ok rfl) (ok_pure rfl) (run_ok ?_))) (tOf_ok (eBin_ok (s1 := s8) (s2 := s8) (x := .tup [.str "no", .int a, .bl true]) (y := .tup [.str "no", .int a, .bl true]) (z := .bl false) (eCall1_ok (x := .str (Txt.join "\n" ws)) (s1 := s8) (ok_pure (jw _ rfl)) (told_bad (pbad q s8) rfl)) (ok_pure rfl) (run_ok (ne_int _))))
      rw [hne, decide_eq_false q]
      rfl
  -- four things
  obtain ⟨qs, _, hrt⟩ := repr_tup nd (by rw [List.length_map]; omega)
  refine Wp.for (ds := [.non, .int 5, .tup (es.map Dd.d), .dct []]) (s' := s8) rfl ?_
  refine Wp.cons rfl (thing_ok format_non (t := "None") (by kernel_rfl) parse_non _ ?_)
  refine Wp.cons rfl (thing_ok format_int (t := "5") (by kernel_rfl) parse_int _ ?_)
  refine Wp.cons rfl (thing_ok (format_tup _) hrt parse_odd _ ?_)
  refine Wp.cons rfl (thing_ok format_dct (t := "{}") (by kernel_rfl) parse_dct _ ?_)
  exact Wp.nil ⟨_, _, _, _, _, _, _, _, _, _, _, _, _, rfl⟩
end Lw
set_option Elab.async false
set_option linter.all false
set_option maxRecDepth 100000
set_option maxHeartbeats 4000000
namespace Lw
open PySem L2 DL
def lawI : LE → M (List D) := iRg1 (eB (on2 oMax2) (aCons (eK (.int 1)) (aCons (eB (on2 oMin2) (aCons (eK (.int 10)) (aCons (eB (on1 oLen) (aCons (eVar 0) aNil)) aNil))) aNil)))
def lawE : LE → M D := eAnd (eBin oEqS (eCall 1 m_format_deeds [] (aCons (eFrz (nLst aNil)) aNil)) (eK (.str ""))) (eBin oEqS (eCall 1 m_parse_deeds [] (aCons (eK (.str "")) aNil)) (eFrz (nLst aNil)))
theorem law_head (ns : List Int) : runS b_law (ent 16 [.scr ns]) = runS (sSeq (sFor lawI (gN 3) b_law_L3) (sRet lawE)) (e16 ns none none none none none none none none none none none none none) := by
  kernel_rfl
theorem lawI_ok (ns : List Int) (a b c d f g h i j k l m n : Option SD) (s : S) : ∃ z : Int, z ≤ 10 ∧ lawI (e16 ns a b c d f g h i j k l m n) s = .ok (rangeD 0 z) s := by
  obtain ⟨u, hu, eu⟩ : ∃ u : Int, u ≤ 10 ∧ (if (((ns.map D.int).length : Nat) : Int) < 10 then (((ns.map D.int).length : Nat) : Int) else 10) = u := ⟨_, by split <;> omega, rfl⟩
  obtain ⟨z, hz, ez⟩ : ∃ z : Int, (1 ≤ z ∧ z ≤ 10) ∧ (if u > 1 then u else 1) = z := ⟨_, by split <;> omega, rfl⟩
  refine ⟨z, hz.2, ?_⟩
  have e1 : eB (on2 oMin2) (aCons (eK (.int 10)) (aCons (eB (on1 oLen) (aCons (eVar 0) aNil)) aNil)) (e16 ns a b c d f g h i j k l m n) s = .ok (.int u) s := by
    refine eB2_ok (f := oMin2) (x := .int 10) (y := .int (ns.map D.int).length) (s1 := s) (s2 := s) rfl rfl ?_
    rw [oMin2_int, eu]
    rfl
  have e2 : eB (on2 oMax2) (aCons (eK (.int 1)) (aCons (eB (on2 oMin2) (aCons (eK (.int 10)) (aCons (eB (on1 oLen) (aCons (eVar 0) aNil)) aNil))) aNil)) (e16 ns a b c d f g h i j k l m n) s = .ok (.int z) s := by
    refine eB2_ok (f := oMax2) (x := .int 1) (y := .int u) (s1 := s) (s2 := s) rfl e1 ?_
    rw [oMax2_int, ez]
    rfl
  unfold lawI iRg1
  refine M.bind_to e2 ?_
  show ((optM (some z) : M Int) >>= fun j => guardM (rgOk j) >>= fun _ => (pure (rangeD 0 j) : M (List D))) s = _
  rw [opt_some, guard_true (by unfold rgOk; rw [decide_eq_true (by omega), decide_eq_true (by omega)] <;> rfl)]
  rfl
theorem lawE_ok (env : LE) (t : S) : ∃ t', lawE env t = .ok (.bl true) t' := by
  have e1 : eBin oEqS (eCall 1 m_format_deeds [] (aCons (eFrz (nLst aNil)) aNil)) (eK (.str "")) env t = .ok (.bl true) t := by
    refine eBin_ok (x := .str "") (y := .str "") (s1 := t) (s2 := t) (eCall1_ok (x := .lst []) (s1 := t) rfl ?_) rfl ?_
    · exact run_ok (format_ok (es := []) (by simp) (by simp))
    · rfl
  have hs : (t ++ [some (O.lst [])])[t.length]? = some (some (.lst [])) := by rw [List.getElem?_append_right (Nat.le_refl _), Nat.sub_self]; rfl
  have e2 : eBin oEqS (eCall 1 m_parse_deeds [] (aCons (eK (.str "")) aNil)) (eFrz (nLst aNil)) env t = .ok (.bl true) (t ++ [some (.lst [])]) := by
    refine eBin_ok (x := .loc t.length) (y := .lst []) (s1 := t ++ [some (.lst [])]) (s2 := t ++ [some (.lst [])]) (eCall1_ok (x := .str "") (s1 := t) rfl (parse_nil t)) rfl ?_
    have p1 : pyM (.loc t.length) (t ++ [some (O.lst [])]) = .ok (.list []) (t ++ [some (.lst [])]) := by
      show (match (t ++ [some (O.lst [])])[t.length]? with
        | some (some (.lst ds)) => (optM ((pyL ds).map .list) : M PyData) (t ++ [some (O.lst [])])
        | some (some (.dct kvs)) => (optM ((leafK kvs).map .dict) : M PyData) (t ++ [some (O.lst [])])
        | _ => .stuck) = _
      rw [hs]
      rfl
    unfold oEqS
    refine M.bind_to (a := true) (s1 := t ++ [some (.lst [])]) ?_ rfl
    show (pyM (.loc t.length) >>= fun p => pyM (.lst []) >>= fun q => guardM (SeqAt.shaped p && SeqAt.shaped q) >>= fun _ => (pure (PyData.eqv p q) : M Bool)) (t ++ [some (O.lst [])]) = _
    refine M.bind_to p1 ?_
    rfl
  refine ⟨t ++ [some (.lst [])], ?_⟩
  unfold lawE eAnd
  refine M.bind_to e1 ?_
  exact e2
theorem law_holds : LawM 63 m_law := fun ns _ => by
  unfold m_law
  rw [mFn_run, law_head]
  obtain ⟨z, hz, hi⟩ := lawI_ok ns none none none none none none none none none none none none none []
  refine run_wp (Wp.for hi ?_)
  refine Wp.each (I := InvL ns) _ ⟨_, _, _, _, _, _, _, _, _, _, _, _, _, rfl⟩ (fun d hd e t hI => ?_) fun e t hI => ?_
  · obtain ⟨a, b, c, f, g, h, i, j, k, l, m, n, o, rfl⟩ := hI
    unfold rangeD at hd
    obtain ⟨q, hq, rfl⟩ := List.mem_map.mp hd
    have hq' : q < 10 := by
      have := List.mem_range.mp hq
      omega
    rw [Int.zero_add]
    exact ⟨_, rfl, turn_ok ns q (by omega) b c f g h i j k l m n o t⟩
  · rw [runS_ret]
    exact lawE_ok e t
end Lw
open PySem PySem.W PyProof.Rows
theorem Lw.walk {l : PySem.W.OpenLaw} {q : Program} {loose : List Str} {XP : (Str → Option Value) → Heap → Prop} {YP : World → Heap → Prop} {d : DefRec} {K : Params → PySem.W.Frag} {m : List DL.D → DL.M DL.D} (hn : l.most = some 63) (hdf : d.params.defaults = []) (hY : ∀ (w : World) (h : Heap), YP w h → (K w.params).In h)
    (F : ∀ (w : World) (mg : Str → Option Value) (fa : Addr) (h : Heap), (K w.params).In h → h.Ns mainGlobals mg → mg d.name = some (.ref fa) → ∃ (fd : FuncData) (C : DL.Ct), C.K = K w.params ∧ (∀ (s : Shared) (u : Value), BindsTo s fd ⟨[u], []⟩ [("_law_script", u)]) ∧ ∀ base : Heap, (K w.params).In base → base.Ns mainGlobals mg → DL.FnG l.prog w C mg base 7 fa fd ["_law_script"] m)
    (hm : DL.LawM 63 m) : PySem.W.WalkO q loose XP YP l.row.toRowW d [] (fun f vs => PySem.call f vs) := DL.walk_G (n := 63) hn (by decide) hdf ⟨⟨rfl, by decide, by decide⟩, rfl⟩ hY F hm
set_option pp.maxSteps 200 in
set_option maxRecDepth 100000 in
set_option maxHeartbeats 0 in
theorem PySem.Challenge.cw_movednames_k62_texts_of_deeds_holds : PySem.Challenge.rw_movednames_k62_texts_of_deeds.Holds := by
  w_on; o_law; k_head; (case hw => w_witness2)
  k_fill
  refine Lw.walk (l := PySem.Challenge.rw_movednames_k62_texts_of_deeds) (m := Lw.m_law) rfl rfl (fun w h Y => PySem.W.kIn_of Y) ?F Lw.law_holds
  case F =>
    intro w mg fa h KX G hmg
    refine' Lw.all_mk KX G hmg ?a0 ?l0 ?c0 ?k0 ?a1 ?l1 ?c1 ?k1 ?a2 ?l2 ?c2 ?k2 ?a3 ?l3 ?c3 ?k3 ?a4 ?l4 ?c4 ?k4 ?a5 ?l5 ?c5 ?k5 ?a6 ?l6 ?c6 ?k6 ?a7 ?l7 ?c7 ?k7 ?a8 ?l8 ?c8 ?k8 ?a9 ?l9 ?c9 ?k9 ?a10 ?l10 ?c10 ?k10 ?a11 ?l11 ?c11 ?k11 ?a12 ?l12 ?c12 ?k12 ?a13 ?l13 ?c13 ?k13 ?a14 ?l14 ?c14 ?k14 ?a15 ?l15 ?c15 ?k15 ?a16 ?l16 ?c16 ?k16 ?a17 ?l17 ?c17 ?k17 ?z_all ?z_bool ?z_enumerate ?z_int ?z_isinstance ?z_len ?z_list ?z_max ?z_min ?z_range ?z_repr ?z_str ?z_tuple ?v_DIGITS ?v_LETTERS ?v_MOST_DIGITS ?v_MOST_LETTERS ?ka_SIZES ?kl_SIZES ?ks_SIZES ?gY0 ?gY1 ?gY2 ?xC1 ?rv1 ?sa1 ?ga1 ?gg1 ?nf1 ?ac1 ?ic1 ?tc1 ?kc1 ?ex1 ?ty1 ?hd1 ?mo1 ?su1 ?sv1 ?se1 ?li1 ?ci1 ?lc1 ?vf1 ?fe1 ?lx1 ?xC2 ?rv2 ?sa2 ?ga2 ?gg2 ?nf2 ?ac2 ?ic2 ?tc2 ?kc2 ?ex2 ?ty2 ?hd2 ?mo2 ?su2 ?sv2 ?se2 ?li2 ?ci2 ?lc2 ?vf2 ?fe2 ?lx2 ?nsu ?ti ?gn ?gt ?s_1_1 ?s_2_1 ?s_1_2 ?s_2_2 ?kt_1_MoveError ?kt_2_MoveError
    (case a0 => k_is); (case l0 => k_is); (case c0 => k_is); (case k0 => k_is); (case a1 => k_is); (case l1 => k_is)
    (case c1 => k_is); (case k1 => k_is); (case a2 => k_is); (case l2 => k_is); (case c2 => k_is); (case k2 => k_is)
    (case a3 => k_is); (case l3 => k_is); (case c3 => k_is); (case k3 => k_is); (case a4 => k_is); (case l4 => k_is)
    (case c4 => k_is); (case k4 => k_is); (case a5 => k_is); (case l5 => k_is); (case c5 => k_is); (case k5 => k_is)
    (case a6 => k_is); (case l6 => k_is); (case c6 => k_is); (case k6 => k_is); (case a7 => k_is); (case l7 => k_is)
    (case c7 => k_is); (case k7 => k_is); (case a8 => k_is); (case l8 => k_is); (case c8 => k_is); (case k8 => k_is)
    (case a9 => k_is); (case l9 => k_is); (case c9 => k_is); (case k9 => k_is); (case a10 => k_is); (case l10 => k_is)
    (case c10 => k_is); (case k10 => k_is); (case a11 => k_is); (case l11 => k_is); (case c11 => k_is); (case k11 => k_is)
    (case a12 => k_is); (case l12 => k_is); (case c12 => k_is); (case k12 => k_is); (case a13 => k_is); (case l13 => k_is)
    (case c13 => k_is); (case k13 => k_is); (case a14 => k_is); (case l14 => k_is); (case c14 => k_is); (case k14 => k_is)
    (case a15 => k_is); (case l15 => k_is); (case c15 => k_is); (case k15 => k_is); (case a16 => k_is); (case l16 => k_is)
    (case c16 => k_is); (case k16 => k_is); (case a17 => k_is); (case l17 => k_is); (case c17 => k_is); (case k17 => k_is)
    (case z_all => k_is); (case z_bool => k_is); (case z_enumerate => k_is); (case z_int => k_is); (case z_isinstance => k_is); (case z_len => k_is)
    (case z_list => k_is); (case z_max => k_is); (case z_min => k_is); (case z_range => k_is); (case z_repr => k_is); (case z_str => k_is)
    (case z_tuple => k_is); (case v_DIGITS => k_is); (case v_LETTERS => k_is); (case v_MOST_DIGITS => k_is); (case v_MOST_LETTERS => k_is); (case ka_SIZES => k_is)
    (case kl_SIZES => k_is); (case ks_SIZES => first | rfl | decide); (case gY0 => k_is); (case gY1 => k_is); (case gY2 => k_is); (case xC1 => k_is)
    (case rv1 => first | rfl | decide +kernel); (case sa1 => k_is); (case ga1 => k_is); (case gg1 => k_is); (case nf1 => k_is); (case ac1 => k_is)
    (case ic1 => k_is); (case tc1 => k_is); (case kc1 => k_is); (case ex1 => k_is); (case ty1 => k_is); (case hd1 => k_is)
    (case mo1 => k_is); (case su1 => ks_is); (case sv1 => k_is); (case se1 => k_is); (case li1 => k_is); (case ci1 => k_is)
    (case lc1 => k_is); (case vf1 => first | rfl | k_is); (case fe1 => first | rfl | decide +kernel); (case lx1 => k_is); (case xC2 => k_is); (case rv2 => first | rfl | decide +kernel)
    (case sa2 => k_is); (case ga2 => k_is); (case gg2 => k_is); (case nf2 => k_is); (case ac2 => k_is); (case ic2 => k_is)
    (case tc2 => k_is); (case kc2 => k_is); (case ex2 => k_is); (case ty2 => k_is); (case hd2 => k_is); (case mo2 => k_is)
    (case su2 => ks_is); (case sv2 => k_is); (case se2 => k_is); (case li2 => k_is); (case ci2 => k_is); (case lc2 => k_is)
    (case vf2 => first | rfl | k_is); (case fe2 => first | rfl | decide +kernel); (case lx2 => k_is); (case nsu => k_is); (case ti => k_is); (case gn => k_is)
    (case gt => k_is); (case s_1_1 => first | rfl | k_is); (case s_2_1 => first | rfl | k_is); (case s_1_2 => first | rfl | k_is); (case s_2_2 => first | rfl | k_is); (case kt_1_MoveError => first | rfl | k_is)
    (case kt_2_MoveError => first | rfl | k_is)
