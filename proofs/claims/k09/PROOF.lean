import PyProof.Rows.All
import Wide.All
import OpenK.AllK
import Wide.FinOn
import HandS.ForMost
import HandS.ForExc
import HandS.CallSlots
import HandS.Wide
import HandS.TupAny
import HandS.IsInst
import HandS.RaiseMore
import KE.OsSortAny
import HandS.SetKeys
import PyProof.EqAt
import PyProof.EqKinds
import PyProof.TupleCall
import KE.KExcSuper
import KE.KSuper
import HandS.ExcField
import HandS.ExcIs
import HandS.TryOnly
import HandS.More
import HandS.Ends
import HandS.WordsExc
import HandS.Property
import HandS.MakeKwOnly
import HandS.DictComp
import HandS.ListItems
import HandS.Strs
import HandS.SetTxt0
import HandS.SetBool
import PyProof.Rows.SortShellAny
import HandS.Star
import HandS.ClsMeth
import HandS.TupMul
import HandS.OwnEq
import PyProof.NeKinds
import PySem.Challenge.RW_movednames_k09_worlds_of_one_server
import PyProof.Rows.ReprOcc
import HandS.Text
set_option Elab.async false
set_option linter.all false
set_option maxRecDepth 100000
set_option maxHeartbeats 2000000
/-! # Plain data, a store of cells, and how the heap bears them -/
namespace DL
open PySem L2

/-- plain values: frozen data, and the numbers of cells -/
inductive D where
  | non | bl (b : Bool) | int (i : Int) | str (s : Str)
  | tup (ds : List D) | lst (ds : List D) | dct (kvs : List (Key × D))
  | scr (ns : List Int)
  | loc (n : Nat)
  | ob (v : V)
  | cls (k : Nat)
  | exn (k : Nat) (fs : List (Str × D))

/-- what a cell holds -/
inductive O where
  | lst (ds : List D) | dct (kvs : List (Key × D)) | ins (c : Nat) (fs : List (Str × D)) | lk (kvs : List (Key × D))

abbrev S := List (Option O)
/-- the class of an exception: an own one by its number, a built-in one -/
inductive XC where
  | own (k : Nat) | bi (n : String)
  deriving DecidableEq

inductive R (α : Type) where
  | ok (a : α) (s : S) | exc (k : XC) (fs : List (Str × D)) (s : S) | stuck

@[reducible] def M (α : Type) := S → R α
def R.bind {α β : Type} (r : R α) (f : α → M β) : R β := match r with
  | .ok a s => f a s
  | .exc k fs s => .exc k fs s
  | .stuck => .stuck
instance : Monad M where
  pure a := fun s => .ok a s
  bind m f := fun s => (m s).bind f
def mStuck {α : Type} : M α := fun _ => .stuck
def mRaise {α : Type} (k : XC) (fs : List (Str × D)) : M α := fun s => .exc k fs s
theorem bind_def {α β : Type} (m : M α) (f : α → M β) (s : S) : (m >>= f) s = (m s).bind f := rfl
theorem pure_def {α : Type} (a : α) (s : S) : (pure a : M α) s = .ok a s := rfl
theorem bind_pure' {α β : Type} (a : α) (f : α → M β) : (pure a >>= f : M β) = f a := rfl
theorem bind_stuck {α β : Type} (f : α → M β) : (mStuck >>= f : M β) = mStuck := rfl
theorem bind_raise {α β : Type} (k : XC) (fs : List (Str × D)) (f : α → M β) : (mRaise k fs >>= f : M β) = mRaise k fs := rfl
theorem bind_assoc' {α β γ : Type} (m : M α) (f : α → M β) (g : β → M γ) : ((m >>= f) >>= g : M γ) = m >>= fun a => f a >>= g := by
  funext s
  show ((m s).bind f).bind g = (m s).bind fun a => f a >>= g
  cases m s <;> rfl
theorem ite_bind {α β : Type} (b : Bool) (m n : M α) (f : α → M β) : ((if b = true then m else n) >>= f : M β) = if b = true then m >>= f else n >>= f := by
  cases b <;> rfl

/-- the class addresses -/
structure Ct where
  K : PySem.W.Frag
  ca : Nat → Addr
  /-- the caught error, its class, its dict -/
  ex : Option (Addr × Addr × Addr) := none

mutual
def Den (C : Ct) (G : Hp) (ρ : List Addr) : D → V → Prop
  | .non, v => v = .non
  | .bl b, v => v = .bl b
  | .int i, v => v = .int i
  | .str s, v => v = .str s
  | .tup ds, v => ∃ a vs, v = .ref a ∧ SqT C.K G a vs ∧ DenL C G ρ ds vs
  | .lst ds, v => ∃ a vs, v = .ref a ∧ G a = some (.lst vs) ∧ DenL C G ρ ds vs
  | .dct kvs, v => ∃ a ws, v = .ref a ∧ G a = some (.dK ws) ∧ DenK C G ρ kvs ws
  | .scr ns, v => ∃ a, v = .ref a ∧ SqL C.K G a (ns.map V.int)
  | .loc n, v => ∃ a, v = .ref a ∧ ρ[n]? = some a
  | .ob u, v => v = u
  | .cls k, v => v = .ref (C.ca k)
  | .exn k fs, v => ∃ a dx gs, v = .ref a ∧ C.ex = some (a, C.ca k, dx) ∧ G dx = some (.xd gs) ∧ DenF C G ρ fs gs
def DenL (C : Ct) (G : Hp) (ρ : List Addr) : List D → List V → Prop
  | [], vs => vs = []
  | d :: ds, vs => ∃ v r, vs = v :: r ∧ Den C G ρ d v ∧ DenL C G ρ ds r
def DenK (C : Ct) (G : Hp) (ρ : List Addr) : List (Key × D) → List (Key × V) → Prop
  | [], vs => vs = []
  | (k, d) :: ds, vs => ∃ v r, vs = (k, v) :: r ∧ Den C G ρ d v ∧ DenK C G ρ ds r
def DenF (C : Ct) (G : Hp) (ρ : List Addr) : List (Str × D) → List (Str × V) → Prop
  | [], vs => vs = []
  | (k, d) :: ds, vs => ∃ v r, vs = (k, v) :: r ∧ Den C G ρ d v ∧ DenF C G ρ ds r
end

/-- heaps grow -/
def Gr (G G' : Hp) : Prop := ∀ a o, G a = some o → G' a = some o
theorem Gr.refl (G : Hp) : Gr G G := fun _ _ h => h
theorem Gr.trans {A B E : Hp} (h : Gr A B) (k : Gr B E) : Gr A E := fun a o e => k a o (h a o e)
theorem Gr.sqt {K : PySem.W.Frag} {G G' : Hp} (h : Gr G G') {a : Addr} {vs : List V} (q : SqT K G a vs) : SqT K G' a vs := by
  rcases q with (q | ⟨o, q⟩) | q
  · exact .inl (.inl (h _ _ q))
  · exact .inl (.inr ⟨o, h _ _ q⟩)
  · exact .inr q
theorem Gr.sql {K : PySem.W.Frag} {G G' : Hp} (h : Gr G G') {a : Addr} {vs : List V} (q : SqL K G a vs) : SqL K G' a vs := by
  rcases q with (q | ⟨o, q⟩) | q
  · exact .inl (.inl (h _ _ q))
  · exact .inl (.inr ⟨o, h _ _ q⟩)
  · exact .inr q
def Pre (ρ ρ' : List Addr) : Prop := ∃ more, ρ' = ρ ++ more
theorem Pre.refl (ρ : List Addr) : Pre ρ ρ := ⟨[], by simp⟩
theorem Pre.get {ρ ρ' : List Addr} (h : Pre ρ ρ') {n : Nat} {a : Addr} (e : ρ[n]? = some a) : ρ'[n]? = some a := by
  obtain ⟨m, rfl⟩ := h
  rw [List.getElem?_append_left (List.getElem?_eq_some_iff.mp e).1]
  exact e
theorem Pre.trans {a b c : List Addr} (h : Pre a b) (k : Pre b c) : Pre a c := by
  obtain ⟨x, rfl⟩ := h
  obtain ⟨y, rfl⟩ := k
  exact ⟨x ++ y, by simp⟩
theorem Pre.mem {ρ ρ' : List Addr} (h : Pre ρ ρ') {a : Addr} (e : a ∈ ρ) : a ∈ ρ' := by
  obtain ⟨m, rfl⟩ := h
  exact List.mem_append_left _ e

mutual
theorem Den.mono {C : Ct} {G G' : Hp} {ρ ρ' : List Addr} (hG : Gr G G') (hρ : Pre ρ ρ') : ∀ (d : D) (v : V), Den C G ρ d v → Den C G' ρ' d v
  | .non, _, h => h
  | .bl _, _, h => h
  | .int _, _, h => h
  | .str _, _, h => h
  | .tup ds, v, h => by
    simp only [Den] at h ⊢
    obtain ⟨a, vs, e, s, l⟩ := h
    exact ⟨a, vs, e, hG.sqt s, DenL.mono hG hρ ds vs l⟩
  | .lst ds, v, h => by
    simp only [Den] at h ⊢
    obtain ⟨a, vs, e, s, l⟩ := h
    exact ⟨a, vs, e, hG _ _ s, DenL.mono hG hρ ds vs l⟩
  | .dct ds, v, h => by
    simp only [Den] at h ⊢
    obtain ⟨a, vs, e, s, l⟩ := h
    exact ⟨a, vs, e, hG _ _ s, DenK.mono hG hρ ds vs l⟩
  | .scr ns, v, h => by
    simp only [Den] at h ⊢
    obtain ⟨a, e, s⟩ := h
    exact ⟨a, e, hG.sql s⟩
  | .loc n, v, h => by
    simp only [Den] at h ⊢
    obtain ⟨a, e, s⟩ := h
    exact ⟨a, e, hρ.get s⟩
  | .ob _, _, h => h
  | .cls _, _, h => h
  | .exn k fs, v, h => by
    simp only [Den] at h ⊢
    obtain ⟨a, dx, gs, e, x, g, l⟩ := h
    exact ⟨a, dx, gs, e, x, hG _ _ g, DenF.mono hG hρ fs gs l⟩
theorem DenL.mono {C : Ct} {G G' : Hp} {ρ ρ' : List Addr} (hG : Gr G G') (hρ : Pre ρ ρ') : ∀ (ds : List D) (vs : List V), DenL C G ρ ds vs → DenL C G' ρ' ds vs
  | [], _, h => h
  | d :: ds, vs, h => by
    simp only [DenL] at h ⊢
    obtain ⟨v, r, e, h1, h2⟩ := h
    exact ⟨v, r, e, Den.mono hG hρ d v h1, DenL.mono hG hρ ds r h2⟩
theorem DenK.mono {C : Ct} {G G' : Hp} {ρ ρ' : List Addr} (hG : Gr G G') (hρ : Pre ρ ρ') : ∀ (ds : List (Key × D)) (vs : List (Key × V)), DenK C G ρ ds vs → DenK C G' ρ' ds vs
  | [], _, h => h
  | (k, d) :: ds, vs, h => by
    simp only [DenK] at h ⊢
    obtain ⟨v, r, e, h1, h2⟩ := h
    exact ⟨v, r, e, Den.mono hG hρ d v h1, DenK.mono hG hρ ds r h2⟩
theorem DenF.mono {C : Ct} {G G' : Hp} {ρ ρ' : List Addr} (hG : Gr G G') (hρ : Pre ρ ρ') : ∀ (ds : List (Str × D)) (vs : List (Str × V)), DenF C G ρ ds vs → DenF C G' ρ' ds vs
  | [], _, h => h
  | (k, d) :: ds, vs, h => by
    simp only [DenF] at h ⊢
    obtain ⟨v, r, e, h1, h2⟩ := h
    exact ⟨v, r, e, Den.mono hG hρ d v h1, DenF.mono hG hρ ds r h2⟩
end

theorem DenL.length {C : Ct} {G : Hp} {ρ : List Addr} : ∀ {ds : List D} {vs : List V}, DenL C G ρ ds vs → vs.length = ds.length
  | [], _, h => by simp only [DenL] at h; subst h; rfl
  | d :: ds, vs, h => by
    simp only [DenL] at h
    obtain ⟨v, r, rfl, _, h2⟩ := h
    simp [DenL.length h2]
theorem DenL.get {C : Ct} {G : Hp} {ρ : List Addr} : ∀ {ds : List D} {vs : List V} {i : Nat} {v : V}, DenL C G ρ ds vs → vs[i]? = some v → ∃ d, ds[i]? = some d ∧ Den C G ρ d v
  | [], _, i, v, h, e => by simp only [DenL] at h; subst h; simp at e
  | d :: ds, vs, i, v, h, e => by
    simp only [DenL] at h
    obtain ⟨w, r, rfl, h1, h2⟩ := h
    cases i with
    | zero => simp at e; subst e; exact ⟨d, by simp, h1⟩
    | succ i =>
      obtain ⟨d', e', h'⟩ := DenL.get (i := i) h2 (by simpa using e)
      exact ⟨d', by simpa using e', h'⟩
theorem DenL.get' {C : Ct} {G : Hp} {ρ : List Addr} : ∀ {ds : List D} {vs : List V} {i : Nat} {d : D}, DenL C G ρ ds vs → ds[i]? = some d → ∃ v, vs[i]? = some v ∧ Den C G ρ d v
  | [], _, i, d, h, e => by simp at e
  | d :: ds, vs, i, d', h, e => by
    simp only [DenL] at h
    obtain ⟨w, r, rfl, h1, h2⟩ := h
    cases i with
    | zero => simp at e; subst e; exact ⟨w, by simp, h1⟩
    | succ i =>
      obtain ⟨v', e', h'⟩ := DenL.get' (i := i) h2 (by simpa using e)
      exact ⟨v', by simpa using e', h'⟩
theorem DenL.append {C : Ct} {G : Hp} {ρ : List Addr} : ∀ {ds es : List D} {vs ws : List V}, DenL C G ρ ds vs → DenL C G ρ es ws → DenL C G ρ (ds ++ es) (vs ++ ws)
  | [], _, _, _, h, k => by simp only [DenL] at h; subst h; exact k
  | d :: ds, es, vs, ws, h, k => by
    simp only [DenL] at h
    obtain ⟨w, r, rfl, h1, h2⟩ := h
    simp only [List.cons_append, DenL]
    exact ⟨w, r ++ ws, rfl, h1, DenL.append h2 k⟩
theorem DenL.one {C : Ct} {G : Hp} {ρ : List Addr} {d : D} {v : V} (h : Den C G ρ d v) : DenL C G ρ [d] [v] := by
  simp only [DenL]
  exact ⟨v, [], rfl, h, rfl⟩
theorem DenL.nil {C : Ct} {G : Hp} {ρ : List Addr} : DenL C G ρ [] [] := by simp only [DenL]
theorem DenL.cons {C : Ct} {G : Hp} {ρ : List Addr} {d : D} {v : V} {ds : List D} {vs : List V} (h : Den C G ρ d v) (k : DenL C G ρ ds vs) : DenL C G ρ (d :: ds) (v :: vs) := by
  simp only [DenL]
  exact ⟨v, vs, rfl, h, k⟩
theorem DenL.set {C : Ct} {G : Hp} {ρ : List Addr} {d : D} {v : V} (k : Den C G ρ d v) : ∀ {ds : List D} {vs : List V} (i : Nat), DenL C G ρ ds vs → DenL C G ρ (ds.set i d) (vs.set i v)
  | [], _, i, h => by simp only [DenL] at h; subst h; simp [DenL]
  | e :: ds, vs, i, h => by
    simp only [DenL] at h
    obtain ⟨w, r, rfl, h1, h2⟩ := h
    cases i with
    | zero => exact .cons k h2
    | succ i => exact .cons h1 (DenL.set k i h2)
theorem DenL.drop {C : Ct} {G : Hp} {ρ : List Addr} : ∀ {ds : List D} {vs : List V} (i : Nat), DenL C G ρ ds vs → DenL C G ρ (ds.drop i) (vs.drop i)
  | [], _, i, h => by simp only [DenL] at h; subst h; simp [DenL]
  | e :: ds, vs, 0, h => h
  | e :: ds, vs, i + 1, h => by
    simp only [DenL] at h
    obtain ⟨w, r, rfl, h1, h2⟩ := h
    exact DenL.drop i h2
theorem DenL.take {C : Ct} {G : Hp} {ρ : List Addr} : ∀ {ds : List D} {vs : List V} (i : Nat), DenL C G ρ ds vs → DenL C G ρ (ds.take i) (vs.take i)
  | [], _, i, h => by simp only [DenL] at h; subst h; simp [DenL]
  | e :: ds, vs, 0, h => by simp [DenL]
  | e :: ds, vs, i + 1, h => by
    simp only [DenL] at h
    obtain ⟨w, r, rfl, h1, h2⟩ := h
    exact .cons h1 (DenL.take i h2)

/-! ### configurations -/
structure Cf where
  H : Hp
  G : Hp
  ρ : List Addr
  s : S
/-- how a cell's object stands -/
def OR (C : Ct) (G : Hp) (ρ : List Addr) : O → Addr → HO → Prop
  | .lst ds, _, h => ∃ vs, h = .lst vs ∧ DenL C G ρ ds vs
  | .dct kvs, _, h => ∃ ws, h = .dK ws ∧ DenK C G ρ kvs ws
  | .ins c fs, a, h => ∃ dx gs, h = .ins (C.ca c) dx gs ∧ G dx = some (.own a) ∧ DenF C G ρ fs gs
  | .lk kvs, _, h => ∃ o ws, h = .frz o (.dK ws) ∧ DenK C G ρ kvs ws
theorem OR.mono {C : Ct} {G G' : Hp} {ρ ρ' : List Addr} {o : O} {a : Addr} {h : HO} (hG : Gr G G') (hρ : Pre ρ ρ') (x : OR C G ρ o a h) : OR C G' ρ' o a h := by
  cases o with
  | lst ds => obtain ⟨vs, e, l⟩ := x; exact ⟨vs, e, l.mono hG hρ⟩
  | dct ds => obtain ⟨vs, e, l⟩ := x; exact ⟨vs, e, l.mono hG hρ⟩
  | ins c fs => obtain ⟨dx, vs, e, g, l⟩ := x; exact ⟨dx, vs, e, hG _ _ g, l.mono hG hρ⟩
  | lk ds => obtain ⟨o, vs, e, l⟩ := x; exact ⟨o, vs, e, l.mono hG hρ⟩

structure WF (C : Ct) (c : Cf) : Prop where
  ext : Gr c.G c.H
  len : c.ρ.length = c.s.length
  nd : c.ρ.Nodup
  dom : ∀ a ∈ c.ρ, c.H a ≠ none
  cel : ∀ (n : Nat) (o : O), c.s[n]? = some (some o) → ∃ a ho, c.ρ[n]? = some a ∧ c.G a = none ∧ c.H a = some ho ∧ OR C c.G c.ρ o a ho

/-- what a step may change: new addresses, and the live cells -/
structure Ext (c c' : Cf) : Prop where
  g : Gr c.G c'.G
  fr : ∀ a, c.G a = none → c.H a ≠ none → c'.G a = none
  kp : ∀ a o, c.H a = some o → a ∉ c.ρ → c'.H a = some o
  dom : ∀ a, c.H a ≠ none → c'.H a ≠ none
  pr : ∃ more, c'.ρ = c.ρ ++ more ∧ ∀ a ∈ more, c.H a = none
  lk : ∀ a o u, c.H a = some (.frz o u) → c'.H a = some (.frz o u)
theorem Ext.refl (c : Cf) : Ext c c := ⟨Gr.refl _, fun _ h _ => h, fun _ _ h _ => h, fun _ h => h, ⟨[], by simp⟩, fun _ _ _ h => h⟩
theorem Ext.pre {c c' : Cf} (h : Ext c c') : Pre c.ρ c'.ρ := by
  obtain ⟨m, e, _⟩ := h.pr
  exact ⟨m, e⟩
theorem Ext.trans {a b c : Cf} (h : Ext a b) (k : Ext b c) : Ext a c := by
  obtain ⟨m1, e1, f1⟩ := h.pr
  obtain ⟨m2, e2, f2⟩ := k.pr
  refine ⟨h.g.trans k.g, fun x g d => k.fr x (h.fr x g d) (h.dom x d), fun x o e n => k.kp x o (h.kp x o e n) ?_, fun x d => k.dom x (h.dom x d), ⟨m1 ++ m2, by rw [e2, e1, List.append_assoc], fun x hx => ?_⟩, fun a o u q => k.lk a o u (h.lk a o u q)⟩
  · rw [e1]
    intro hm
    rcases List.mem_append.mp hm with hm | hm
    · exact n hm
    · have := f1 x hm
      rw [e] at this
      cases this
  · rcases List.mem_append.mp hx with hx | hx
    · exact f1 x hx
    · have := f2 x hx
      cases q : a.H x with
      | none => rfl
      | some o => exact absurd this (h.dom x (by rw [q]; simp))

/-- the end of a piece of code: what the mirror says of it, as the heap bears it -/
def Fn (C : Ct) (c : Cf) {α : Type} (r : R α) (K : α → Cf → Prop) (E : XK) : Prop := match r with
  | .ok a s' => ∀ c', c'.s = s' → Ext c c' → WF C c' → K a c'
  | .exc (.own k) fs s' => ∀ c' dx gs, c'.s = s' → Ext c c' → WF C c' → c'.G dx = some (.xd gs) → DenF C c'.G c'.ρ fs gs → E (.ref (C.ca k)) (some dx) c'.H
  | .exc (.bi n) _ s' => ∀ c', c'.s = s' → Ext c c' → WF C c' → E (.type n) none c'.H
  | .stuck => False
theorem Fn.mono {C : Ct} {c c1 : Cf} {α : Type} {r : R α} {K : α → Cf → Prop} {E : XK} (e : Ext c c1) (h : Fn C c r K E) : Fn C c1 r K E := by
  cases r with
  | ok a s' => exact fun c' q x w => h c' q (e.trans x) w
  | exc k fs s' =>
    cases k with
    | own k => exact fun c' dx gs q x w => h c' dx gs q (e.trans x) w
    | bi n => exact fun c' q x w => h c' q (e.trans x) w
  | stuck => exact h
theorem Fn.excK {C : Ct} {c : Cf} {α β : Type} {k : XC} {fs : List (Str × D)} {s' : S} {K : α → Cf → Prop} {K' : β → Cf → Prop} {E : XK} (h : Fn C c (.exc k fs s' : R α) K E) : Fn C c (.exc k fs s' : R β) K' E := by
  cases k <;> exact h
theorem Fn.imp {C : Ct} {c : Cf} {α : Type} {r : R α} {K K' : α → Cf → Prop} {E : XK} (h : Fn C c r K E) (k : ∀ a c', Ext c c' → WF C c' → K a c' → K' a c') : Fn C c r K' E := by
  cases r with
  | ok a s' => exact fun c' q x w => k a c' x w (h c' q x w)
  | exc k fs s' => exact Fn.excK h
  | stuck => exact h
/-- the sequel of a piece that has ended -/
theorem Fn.bind {C : Ct} {c : Cf} {α β : Type} {m : R α} {f : α → M β} {K1 : α → Cf → Prop} {K : β → Cf → Prop} {E : XK} (h : Fn C c (m.bind f) K E)
    (k : ∀ a c', Ext c c' → WF C c' → Fn C c' (f a c'.s) K E → K1 a c') : Fn C c m K1 E := by
  cases m with
  | ok a s' => exact fun c' q x w => k a c' x w (by subst q; exact Fn.mono x h)
  | exc k fs s' => exact Fn.excK h
  | stuck => exact h
theorem Fn.bind0 {C : Ct} {c : Cf} {α β : Type} {m : R α} {f : α → M β} {K1 : α → Cf → Prop} {K : β → Cf → Prop} {E : XK} (h : Fn C c (m.bind f) K E)
    (k : ∀ a c', Ext c c' → WF C c' → Fn C c (f a c'.s) K E → K1 a c') : Fn C c m K1 E := by
  cases m with
  | ok a s' => exact fun c' q x w => k a c' x w (by subst q; exact h)
  | exc k fs s' => exact Fn.excK h
  | stuck => exact h
theorem Fn.ok {C : Ct} {c : Cf} {α : Type} {a : α} {K : α → Cf → Prop} {E : XK} (w : WF C c) (h : Fn C c (.ok a c.s) K E) : K a c := h c rfl (Ext.refl c) w

/-! ### slots -/
/-- a slot holds a value, or a container of its own -/
inductive SD where
  | val (d : D) | own (o : O)
abbrev LE := List (Option SD)
structure Rl (C : Ct) (env : LE) (σ : St) (c : Cf) : Prop where
  wf : WF C c
  len : env.length = σ.length
  val : ∀ (i : Nat) (d : D), env[i]? = some (some (.val d)) → ∃ v, σ[i]? = some (some v) ∧ Den C c.G c.ρ d v
  own : ∀ (i : Nat) (o : O), env[i]? = some (some (.own o)) → ∃ a ho, σ[i]? = some (some (.ref a)) ∧ c.G a = none ∧ a ∉ c.ρ ∧ c.H a = some ho ∧ OR C c.G c.ρ o a ho
  apart : ∀ (i j : Nat) (o u : O) (a : Addr), env[i]? = some (some (.own o)) → env[j]? = some (some (.own u)) → σ[i]? = some (some (.ref a)) → σ[j]? = some (some (.ref a)) → i = j
theorem Rl.ext {C : Ct} {env : LE} {σ : St} {c c' : Cf} (h : Rl C env σ c) (e : Ext c c') (w : WF C c') : Rl C env σ c' := by
  refine ⟨w, h.len, fun i d q => ?_, fun i o q => ?_, h.apart⟩
  · obtain ⟨v, q1, q2⟩ := h.val i d q
    exact ⟨v, q1, q2.mono e.g e.pre⟩
  · obtain ⟨a, ho, q1, q2, q3, q4, q5⟩ := h.own i o q
    refine ⟨a, ho, q1, e.fr a q2 (by rw [q4]; simp), ?_, e.kp a ho q4 q3, q5.mono e.g e.pre⟩
    obtain ⟨m, em, fm⟩ := e.pr
    rw [em]
    intro hm
    rcases List.mem_append.mp hm with hm | hm
    · exact q3 hm
    · have := fm a hm
      rw [q4] at this
      cases this

/-! ### judgements -/
theorem Fn.ret {C : Ct} {c : Cf} {α : Type} {a : α} {K : α → Cf → Prop} {E : XK} (w : WF C c) (h : Fn C c ((pure a : M α) c.s) K E) : K a c := h c rfl (Ext.refl c) w
abbrev KD (C : Ct) (Q : VK) : D → Cf → Prop := fun d c => ∀ v, Den C c.G c.ρ d v → Q v c.H
abbrev KB (Q : Bool → Hp → Prop) : Bool → Cf → Prop := fun b c => Q b c.H
abbrev KA (C : Ct) (Q : List V → Hp → Prop) : List D → Cf → Prop := fun ds c => ∀ vs, DenL C c.G c.ρ ds vs → Q vs c.H
/-- a new object at p, fresh since c0 -/
structure New (C : Ct) (c0 c : Cf) (o : O) (p : Addr) : Prop where
  fresh : c0.H p = none
  g : c.G p = none
  r : p ∉ c.ρ
  at' : ∃ ho, c.H p = some ho ∧ OR C c.G c.ρ o p ho
abbrev KN (C : Ct) (c0 : Cf) (Q : VK) : O → Cf → Prop := fun o c => ∀ p, New C c0 c o p → Q (.ref p) c.H
/-- an expression's reading does what the mirror says; W: what is wished of an exception, at the slots -/
def SimE (C : Ct) (W : WX) (t : TE) (m : LE → M D) : Prop :=
  ∀ env σ c Q, Rl C env σ c → Fn C c (m env c.s) (KD C Q) (fun a b H => W a b σ H) → t σ c.H Q
structure SE (X : Cx) (C : Ct) (W : WX) (e : Expr) (m : LE → M D) : Prop where
  out : ∃ t, PE X e t ∧ SimE C W t m
/-- tests -/
def SimT (C : Ct) (W : WX) (t : TT) (m : LE → M Bool) : Prop :=
  ∀ env σ c Q, Rl C env σ c → Fn C c (m env c.s) (KB Q) (fun a b H => W a b σ H) → t σ c.H Q
structure STe (X : Cx) (C : Ct) (W : WX) (e : Expr) (m : LE → M Bool) : Prop where
  out : ∃ t, PT X e t ∧ SimT C W t m
structure SW (X : Cx) (C : Ct) (W : WX) (e : Expr) (m : LE → M Bool) : Prop where
  out : ∃ t, PW X e t ∧ SimT C W t m
/-- argument lists -/
def SimA (C : Ct) (W : WX) (t : TA) (m : LE → M (List D)) : Prop :=
  ∀ env σ c Q, Rl C env σ c → Fn C c (m env c.s) (KA C Q) (fun a b H => W a b σ H) → t σ c.H Q
structure SA (X : Cx) (C : Ct) (W : WX) (es : List Expr) (m : LE → M (List D)) : Prop where
  out : ∃ t, PA X es t ∧ SimA C W t m
/-- expressions that give a new object -/
def SimN (C : Ct) (W : WX) (t : TE) (m : LE → M O) : Prop :=
  ∀ env σ c Q, Rl C env σ c → Fn C c (m env c.s) (KN C c Q) (fun a b H => W a b σ H) → t σ c.H Q
structure SN (X : Cx) (C : Ct) (W : WX) (e : Expr) (m : LE → M O) : Prop where
  out : ∃ t, PE X e t ∧ SimN C W t m
/-- where the code stands: the written part is C's -/
theorem Ext.free {c c' : Cf} (e : Ext c c') {p : Addr} (h : c'.H p = none) : c.H p = none := by
  cases q : c.H p with
  | none => rfl
  | some o => exact absurd h (e.dom p (by rw [q]; simp))
theorem WF.gfree {C : Ct} {c : Cf} (w : WF C c) {p : Addr} (h : c.H p = none) : c.G p = none := by
  cases q : c.G p with
  | none => rfl
  | some o => rw [w.ext p o q] at h; cases h
theorem WF.rfree {C : Ct} {c : Cf} (w : WF C c) {p : Addr} (h : c.H p = none) : p ∉ c.ρ := fun hm => w.dom p hm h

/-! ### steps of the heap -/
/-- a new object laid at p, frozen -/
theorem lay_frozen {C : Ct} {c : Cf} {p : Addr} {o : HO} (w : WF C c) (hp : c.H p = none) :
    WF C ⟨upd c.H p o, upd c.G p o, c.ρ, c.s⟩ ∧ Ext c ⟨upd c.H p o, upd c.G p o, c.ρ, c.s⟩ := by
  have ne : ∀ a, c.H a ≠ none → a ≠ p := fun a h e => by subst e; exact h hp
  have gp := w.gfree hp
  have hG : Gr c.G (upd c.G p o) := fun a u e => by rw [upd_ne (ne_of_none e gp)]; exact e
  refine ⟨⟨fun a u e => ?_, w.len, w.nd, fun a ha => ?_, fun n u e => ?_⟩, ⟨hG, fun a g d => ?_, fun a u e _ => ?_, fun a d => ?_, ⟨[], by simp⟩, fun a z u e => by show upd c.H p o a = _; rw [upd_ne (ne a (by rw [e]; simp))]; exact e⟩⟩
  · have e' : upd c.G p o a = some u := e
    show upd c.H p o a = some u
    by_cases h : a = p
    · subst h; rw [upd_same] at e' ⊢; exact e'
    · rw [upd_ne h] at e' ⊢; exact w.ext a u e'
  · show upd c.H p o a ≠ none
    rw [upd_ne (ne a (w.dom a ha))]; exact w.dom a ha
  · obtain ⟨a, ho, r, g, h, x⟩ := w.cel n u e
    have na : a ≠ p := ne a (by rw [h]; simp)
    exact ⟨a, ho, r, by show upd c.G p o a = none; rw [upd_ne na]; exact g, by show upd c.H p o a = _; rw [upd_ne na]; exact h, x.mono hG (Pre.refl _)⟩
  · show upd c.G p o a = none
    rw [upd_ne (ne a d)]; exact g
  · show upd c.H p o a = _
    rw [upd_ne (ne a (by rw [e]; simp))]; exact e
  · show upd c.H p o a ≠ none
    rw [upd_ne (ne a d)]; exact d
/-- a new object laid at p, of nobody yet -/
theorem lay_new {C : Ct} {c : Cf} {p : Addr} {o : HO} (w : WF C c) (hp : c.H p = none) :
    WF C ⟨upd c.H p o, c.G, c.ρ, c.s⟩ ∧ Ext c ⟨upd c.H p o, c.G, c.ρ, c.s⟩ := by
  have ne : ∀ a, c.H a ≠ none → a ≠ p := fun a h e => by subst e; exact h hp
  have gp := w.gfree hp
  refine ⟨⟨fun a u e => ?_, w.len, w.nd, fun a ha => ?_, fun n u e => ?_⟩, ⟨Gr.refl _, fun a g d => g, fun a u e _ => ?_, fun a d => ?_, ⟨[], by simp⟩, fun a z u e => by show upd c.H p o a = _; rw [upd_ne (ne a (by rw [e]; simp))]; exact e⟩⟩
  · show upd c.H p o a = _
    rw [upd_ne (ne_of_none e gp)]; exact w.ext a u e
  · show upd c.H p o a ≠ none
    rw [upd_ne (ne a (w.dom a ha))]; exact w.dom a ha
  · obtain ⟨a, ho, r, g, h, x⟩ := w.cel n u e
    have na : a ≠ p := ne a (by rw [h]; simp)
    exact ⟨a, ho, r, g, by show upd c.H p o a = _; rw [upd_ne na]; exact h, x⟩
  · show upd c.H p o a = _
    rw [upd_ne (ne a (by rw [e]; simp))]; exact e
  · show upd c.H p o a ≠ none
    rw [upd_ne (ne a d)]; exact d
/-- an object of nobody is frozen -/
theorem freeze {C : Ct} {c : Cf} {p : Addr} {o : HO} (w : WF C c) (hp : c.H p = some o) (hg : c.G p = none) (hr : p ∉ c.ρ) : WF C ⟨c.H, upd c.G p o, c.ρ, c.s⟩ ∧ Gr c.G (upd c.G p o) := by
  have hG : Gr c.G (upd c.G p o) := fun a u e => by rw [upd_ne (ne_of_none e hg)]; exact e
  refine ⟨⟨fun a u e => ?_, w.len, w.nd, w.dom, fun n u e => ?_⟩, hG⟩
  · by_cases h : a = p
    · subst h
      have e' : upd c.G a o a = some u := e
      rw [upd_same] at e'
      cases e'
      exact hp
    · have e' : upd c.G p o a = some u := e
      rw [upd_ne h] at e'
      exact w.ext a u e'
  · obtain ⟨a, ho, r, g, h, x⟩ := w.cel n u e
    have na : a ≠ p := fun z => by subst z; exact hr (List.mem_of_getElem? r)
    exact ⟨a, ho, r, by show upd c.G p o a = none; rw [upd_ne na]; exact g, h, x.mono hG (Pre.refl _)⟩

end DL
set_option Elab.async false
set_option linter.all false
set_option maxRecDepth 100000
set_option maxHeartbeats 2000000
/-! # Expressions -/
namespace DL
open PySem L2
section
variable {X : Cx} {C : Ct} {W : WX}
/-! ### names and constants -/
def eVar (i : Nat) : LE → M D := fun env => match env[i]? with
  | some (some (.val d)) => pure d
  | _ => mStuck
theorem se_var (i : Nat) {x : Str} {pos : Pos} (hN : X.N[i]? = some x := by rfl) (hv : Vis X.env.scope x := by first | exact Or.inl rfl | exact Or.inr (Or.inl rfl) | exact Or.inr (Or.inr rfl)) (hd : (x == ("__debug__" : Str)) = false := by decide)
    (hcd : (x == ("__classdict__" : Str)) = false := by decide) : SE X C W (.Name x pos) (eVar i) := by
  refine ⟨_, pe_var hN hv hd hcd, fun env σ c Q hR hF => ?_⟩
  unfold eVar at hF
  cases e : env[i]? with
  | none => rw [e] at hF; exact False.elim hF
  | some o =>
    cases o with
    | none => rw [e] at hF; exact False.elim hF
    | some sd =>
      cases sd with
      | val d =>
        rw [e] at hF
        obtain ⟨v, e1, dn⟩ := hR.val i d e
        exact ⟨v, e1, Fn.ok hR.wf hF v dn⟩
      | own o => rw [e] at hF; exact False.elim hF
def eK (d : D) : LE → M D := fun _ => pure d
theorem se_int {i : Int} {j pos} : SE X C W (.Constant (.int i) j pos) (eK (.int i)) := ⟨_, pe_int, fun env σ c Q hR hF => Fn.ok hR.wf hF _ rfl⟩
theorem se_bl {i : Bool} {j pos} : SE X C W (.Constant (.bool i) j pos) (eK (.bl i)) := ⟨_, pe_bl, fun env σ c Q hR hF => Fn.ok hR.wf hF _ rfl⟩
theorem se_non {j pos} : SE X C W (.Constant .none j pos) (eK .non) := ⟨_, pe_non, fun env σ c Q hR hF => Fn.ok hR.wf hF _ rfl⟩
theorem se_str {i : Str} {j pos} : SE X C W (.Constant (.str i) j pos) (eK (.str i)) := ⟨_, pe_str, fun env σ c Q hR hF => Fn.ok hR.wf hF _ rfl⟩
/-- a constant of the module -/
structure KV (C : Ct) (u : Value) (d : D) : Prop where
  at' : ∃ v, RelV v u ∧ ∀ G ρ, Den C G ρ d v
theorem se_glob {x : Str} {u : Value} {d : D} {pos : Pos} (hm : X.mg x = some u) (k : KV C u d) (hg : Gl X x := by rfl) (hd : (x == ("__debug__" : Str)) = false := by decide) : SE X C W (.Name x pos) (eK d) := by
  obtain ⟨v, r, h⟩ := k.at'
  exact ⟨_, pe_glob hg hm r hd, fun env σ c Q hR hF => Fn.ok hR.wf hF _ (h _ _)⟩

/-! ### operators by values -/
def SimO (C : Ct) (r : R2) (f : D → D → M D) : Prop :=
  ∀ c x y v w Q E, WF C c → Den C c.G c.ρ x v → Den C c.G c.ρ y w → Fn C c (f x y c.s) (KD C Q) E → r v w c.H Q
def eBin (f : D → D → M D) (ma mb : LE → M D) : LE → M D := fun env => ma env >>= fun x => mb env >>= fun y => f x y
theorem sim_op {r : R2} {f : D → D → M D} {ta tb : TE} {ma mb : LE → M D} (hf : SimO C r f) (sa : SimE C W ta ma) (sb : SimE C W tb mb) : SimE C W (tOp r ta tb) (eBin f ma mb) := by
  intro env σ c Q hR hF
  refine sa env σ c _ hR (Fn.bind hF fun x c1 e1 w1 hF1 v d1 => ?_)
  refine sb env σ c1 _ (hR.ext e1 w1) (Fn.bind hF1 fun y c2 e2 w2 hF2 w d2 => ?_)
  exact hf c2 x y v w Q _ w2 (d1.mono e2.g e2.pre) d2 hF2
theorem se_op {op : Operator} {r : R2} {f : D → D → M D} {a b : Expr} {ma mb : LE → M D} {pos : Pos} (ho : OpR X (binaryOp op) r) (hf : SimO C r f) (ha : SE X C W a ma) (hb : SE X C W b mb) : SE X C W (.BinOp a op b pos) (eBin f ma mb) := by
  obtain ⟨ta, pa, sa⟩ := ha.out
  obtain ⟨tb, pb, sb⟩ := hb.out
  exact ⟨_, pe_op ho pa pb, sim_op hf sa sb⟩
theorem se_cmp {op : CmpOp} {r : R2} {f : D → D → M D} {a b : Expr} {ma mb : LE → M D} {pos : Pos} (ho : OpR X (compareOp op) r) (hf : SimO C r f) (ha : SE X C W a ma) (hb : SE X C W b mb) (hm : behindInMarks op b = false := by first | exact nomark _ | rfl) : SE X C W (.Compare a [op] [b] pos) (eBin f ma mb) := by
  obtain ⟨ta, pa, sa⟩ := ha.out
  obtain ⟨tb, pb, sb⟩ := hb.out
  exact ⟨_, pe_cmpR ho pa pb hm, sim_op hf sa sb⟩
def asB : D → M Bool
  | .bl b => pure b
  | _ => mStuck
def tOf (m : LE → M D) : LE → M Bool := fun env => m env >>= asB
theorem sim_tTest {t : TE} {m : LE → M D} (h : SimE C W t m) : SimT C W (tTest t) (tOf m) := by
  intro env σ c Q hR hF
  refine h env σ c _ hR (Fn.bind hF fun x c1 e1 w1 hF1 v d1 => ?_)
  cases x with
  | bl b => exact ⟨b, d1, Fn.ok w1 hF1⟩
  | _ => exact hF1.elim
theorem st_cmp {op : CmpOp} {r : R2} {f : D → D → M D} {a b : Expr} {ma mb : LE → M D} {pos : Pos} (ho : OpR X (compareOp op) r) (hf : SimO C r f) (ha : SE X C W a ma) (hb : SE X C W b mb) (hm : behindInMarks op b = false := by first | exact nomark _ | rfl) : STe X C W (.Compare a [op] [b] pos) (tOf (eBin f ma mb)) := by
  obtain ⟨ta, pa, sa⟩ := ha.out
  obtain ⟨tb, pb, sb⟩ := hb.out
  exact ⟨_, pt_cmpR ho pa pb hm, sim_tTest (sim_op hf sa sb)⟩
theorem st_val {e : Expr} {m : LE → M D} (h : SE X C W e m) (he : ∀ whole, isTrue e X.env whole = (do let v ← whole; standAt e.pos; holding [v] (truthy v)) := by intro _; rfl) : STe X C W e (tOf m) := by
  obtain ⟨t, p, s⟩ := h.out
  exact ⟨_, pt_val p he, fun env σ c Q hR hF => sim_tTest s env σ c Q hR hF⟩
/-- a < b < c -/
def eChain (f g : D → D → M D) (ma mb mc : LE → M D) : LE → M D := fun env => ma env >>= fun x => mb env >>= fun y => f x y >>= fun z => asB z >>= fun b => if b = true then mc env >>= fun u => g y u else pure (.bl false)
theorem sim_chain {r r' : R2} {f g : D → D → M D} {ta tb tc : TE} {ma mb mc : LE → M D} (hf : SimO C r f) (hg : SimO C r' g) (sa : SimE C W ta ma) (sb : SimE C W tb mb) (sc : SimE C W tc mc) : SimE C W (tChain r r' ta tb tc) (eChain f g ma mb mc) := by
  intro env σ c Q hR hF
  refine sa env σ c _ hR (Fn.bind hF fun x c1 e1 w1 hF1 v d1 => ?_)
  refine sb env σ c1 _ (hR.ext e1 w1) (Fn.bind hF1 fun y c2 e2 w2 hF2 w d2 => ?_)
  refine hf c2 x y v w _ _ w2 (d1.mono e2.g e2.pre) d2 (Fn.bind hF2 fun z c3 e3 w3 hF3 zv d3 => ?_)
  cases z with
  | bl b =>
    refine ⟨b, d3, ?_⟩
    have hF4 : Fn C c3 ((if b = true then mc env >>= fun u => g y u else pure (.bl false)) c3.s) (KD C Q) (fun a b H => W a b σ H) := hF3
    cases b with
    | true =>
      refine iteT (sc env σ c3 _ (((hR.ext e1 w1).ext e2 w2).ext e3 w3) (Fn.bind hF4 fun u c4 e4 w4 hF5 uv d4 => ?_))
      exact hg c4 y u w uv Q _ w4 (d2.mono (e3.g.trans e4.g) (e3.pre.trans e4.pre)) d4 hF5
    | false => exact iteF (Fn.ok w3 hF4 _ rfl)
  | _ => exact hF3.elim
theorem se_chain {op op' : CmpOp} {r r' : R2} {f g : D → D → M D} {a b c : Expr} {ma mb mc : LE → M D} {pos : Pos} (ho : OpR X (compareOp op) r) (hf : SimO C r f) (ho' : OpR X (compareOp op') r') (hg : SimO C r' g) (ha : SE X C W a ma) (hb : SE X C W b mb) (hc : SE X C W c mc)
    (hm : lastMarks [op, op'] [b, c] = false := by with_unfolding_all rfl) : SE X C W (.Compare a [op, op'] [b, c] pos) (eChain f g ma mb mc) := by
  obtain ⟨ta, pa, sa⟩ := ha.out
  obtain ⟨tb, pb, sb⟩ := hb.out
  obtain ⟨tc, pc, sc⟩ := hc.out
  exact ⟨_, pe_chain ho ho' pa pb pc hm, sim_chain hf hg sa sb sc⟩
theorem st_chain {op op' : CmpOp} {r r' : R2} {f g : D → D → M D} {a b c : Expr} {ma mb mc : LE → M D} {pos : Pos} (ho : OpR X (compareOp op) r) (hf : SimO C r f) (ho' : OpR X (compareOp op') r') (hg : SimO C r' g) (ha : SE X C W a ma) (hb : SE X C W b mb) (hc : SE X C W c mc)
    (hm : lastMarks [op, op'] [b, c] = false := by with_unfolding_all rfl) : STe X C W (.Compare a [op, op'] [b, c] pos) (tOf (eChain f g ma mb mc)) := by
  obtain ⟨ta, pa, sa⟩ := ha.out
  obtain ⟨tb, pb, sb⟩ := hb.out
  obtain ⟨tc, pc, sc⟩ := hc.out
  exact ⟨_, pt_chain ho ho' pa pb pc hm, sim_tTest (sim_chain hf hg sa sb sc)⟩
/-! ### and, or, not, if -/
def tAndM (m n : LE → M Bool) : LE → M Bool := fun env => m env >>= fun b => if b = true then n env else pure false
def tOrM (m n : LE → M Bool) : LE → M Bool := fun env => m env >>= fun b => if b = true then pure true else n env
def tNotM (m : LE → M Bool) : LE → M Bool := fun env => m env >>= fun b => pure (!b)
theorem sim_tAnd {t u : TT} {m n : LE → M Bool} (h : SimT C W t m) (k : SimT C W u n) : SimT C W (tAnd t u) (tAndM m n) := by
  intro env σ c Q hR hF
  refine h env σ c _ hR (Fn.bind hF fun b c1 e1 w1 hF1 => ?_)
  cases b with
  | true => exact iteT (k env σ c1 _ (hR.ext e1 w1) hF1)
  | false => exact iteF (Fn.ok w1 hF1)
theorem sim_tOr {t u : TT} {m n : LE → M Bool} (h : SimT C W t m) (k : SimT C W u n) : SimT C W (tOr t u) (tOrM m n) := by
  intro env σ c Q hR hF
  refine h env σ c _ hR (Fn.bind hF fun b c1 e1 w1 hF1 => ?_)
  cases b with
  | true => exact iteT (Fn.ok w1 hF1)
  | false => exact iteF (k env σ c1 _ (hR.ext e1 w1) hF1)
theorem sim_tNot {t : TT} {m : LE → M Bool} (h : SimT C W t m) : SimT C W (tNot t) (tNotM m) := by
  intro env σ c Q hR hF
  refine h env σ c _ hR (Fn.bind hF fun b c1 e1 w1 hF1 => ?_)
  have q := Fn.ret w1 hF1
  exact q
theorem sw_and1 {a : Expr} {m : LE → M Bool} {pos : Pos} (h : STe X C W a m) : SW X C W (.BoolOp .And [a] pos) m := by
  obtain ⟨t, p, s⟩ := h.out
  exact ⟨_, pw_and1 p, s⟩
theorem sw_or1 {a : Expr} {m : LE → M Bool} {pos : Pos} (h : STe X C W a m) : SW X C W (.BoolOp .Or [a] pos) m := by
  obtain ⟨t, p, s⟩ := h.out
  exact ⟨_, pw_or1 p, s⟩
theorem sw_and {a b : Expr} {rest : List Expr} {m n : LE → M Bool} {pos : Pos} (h : STe X C W a m) (k : SW X C W (.BoolOp .And (b :: rest) pos) n) : SW X C W (.BoolOp .And (a :: b :: rest) pos) (tAndM m n) := by
  obtain ⟨t, p, s⟩ := h.out
  obtain ⟨t', p', s'⟩ := k.out
  exact ⟨_, pw_and p p', sim_tAnd s s'⟩
theorem sw_or {a b : Expr} {rest : List Expr} {m n : LE → M Bool} {pos : Pos} (h : STe X C W a m) (k : SW X C W (.BoolOp .Or (b :: rest) pos) n) : SW X C W (.BoolOp .Or (a :: b :: rest) pos) (tOrM m n) := by
  obtain ⟨t, p, s⟩ := h.out
  obtain ⟨t', p', s'⟩ := k.out
  exact ⟨_, pw_or p p', sim_tOr s s'⟩
theorem st_sw {e : Expr} {m : LE → M Bool} (h : SW X C W e m) : STe X C W e m := by
  obtain ⟨t, p, s⟩ := h.out
  exact ⟨_, p.pt, s⟩
theorem st_not {a : Expr} {m : LE → M Bool} {pos : Pos} (h : STe X C W a m) : STe X C W (.UnaryOp .Not a pos) (tNotM m) := by
  obtain ⟨t, p, s⟩ := h.out
  exact ⟨_, pt_not p, sim_tNot s⟩
def eAnd (m n : LE → M D) : LE → M D := fun env => m env >>= fun x => asB x >>= fun b => if b = true then n env else pure (.bl false)
def eOr (m n : LE → M D) : LE → M D := fun env => m env >>= fun x => asB x >>= fun b => if b = true then pure (.bl true) else n env
def eNot (m : LE → M D) : LE → M D := fun env => m env >>= fun x => asB x >>= fun b => pure (.bl (!b))
theorem sim_andV {t u : TE} {m n : LE → M D} (h : SimE C W t m) (k : SimE C W u n) : SimE C W (tAndV t u) (eAnd m n) := by
  intro env σ c Q hR hF
  refine h env σ c _ hR (Fn.bind hF fun x c1 e1 w1 hF1 v d1 => ?_)
  cases x with
  | bl b =>
    refine ⟨b, d1, ?_⟩
    cases b with
    | true => exact iteT (k env σ c1 _ (hR.ext e1 w1) hF1)
    | false => exact iteF (Fn.ok w1 hF1 _ rfl)
  | _ => exact False.elim hF1
theorem sim_orV {t u : TE} {m n : LE → M D} (h : SimE C W t m) (k : SimE C W u n) : SimE C W (tOrV t u) (eOr m n) := by
  intro env σ c Q hR hF
  refine h env σ c _ hR (Fn.bind hF fun x c1 e1 w1 hF1 v d1 => ?_)
  cases x with
  | bl b =>
    refine ⟨b, d1, ?_⟩
    cases b with
    | true => exact iteT (Fn.ok w1 hF1 _ rfl)
    | false => exact iteF (k env σ c1 _ (hR.ext e1 w1) hF1)
  | _ => exact False.elim hF1
theorem sim_notV {t : TE} {m : LE → M D} (h : SimE C W t m) : SimE C W (tNotV t) (eNot m) := by
  intro env σ c Q hR hF
  refine h env σ c _ hR (Fn.bind hF fun x c1 e1 w1 hF1 v d1 => ?_)
  cases x with
  | bl b => exact ⟨b, d1, Fn.ok w1 hF1 _ rfl⟩
  | _ => exact False.elim hF1
theorem se_one {op : BoolOp} {a : Expr} {m : LE → M D} {pos : Pos} (h : SE X C W a m) : SE X C W (.BoolOp op [a] pos) m := by
  obtain ⟨t, p, s⟩ := h.out
  exact ⟨_, pe_one p, s⟩
theorem se_and {a b : Expr} {rest : List Expr} {m n : LE → M D} {pos : Pos} (h : SE X C W a m) (k : SE X C W (.BoolOp .And (b :: rest) pos) n) : SE X C W (.BoolOp .And (a :: b :: rest) pos) (eAnd m n) := by
  obtain ⟨t, p, s⟩ := h.out
  obtain ⟨t', p', s'⟩ := k.out
  exact ⟨_, pe_and p p', sim_andV s s'⟩
theorem se_or {a b : Expr} {rest : List Expr} {m n : LE → M D} {pos : Pos} (h : SE X C W a m) (k : SE X C W (.BoolOp .Or (b :: rest) pos) n) : SE X C W (.BoolOp .Or (a :: b :: rest) pos) (eOr m n) := by
  obtain ⟨t, p, s⟩ := h.out
  obtain ⟨t', p', s'⟩ := k.out
  exact ⟨_, pe_or p p', sim_orV s s'⟩
theorem se_not {a : Expr} {m : LE → M D} {pos : Pos} (h : SE X C W a m) : SE X C W (.UnaryOp .Not a pos) (eNot m) := by
  obtain ⟨t, p, s⟩ := h.out
  exact ⟨_, pe_not p, sim_notV s⟩
def eIf (t : LE → M Bool) (m n : LE → M D) : LE → M D := fun env => t env >>= fun b => if b = true then m env else n env
theorem se_if {a b c : Expr} {t : LE → M Bool} {m n : LE → M D} {pos : Pos} (hc : STe X C W c t) (ha : SE X C W a m) (hb : SE X C W b n) : SE X C W (.IfExp c a b pos) (eIf t m n) := by
  obtain ⟨tc, pc, sc⟩ := hc.out
  obtain ⟨ta, pa, sa⟩ := ha.out
  obtain ⟨tb, pb, sb⟩ := hb.out
  refine ⟨_, pe_ifExp pc pa pb, fun env σ c Q hR hF => ?_⟩
  refine sc env σ c _ hR (Fn.bind hF fun b c1 e1 w1 hF1 => ?_)
  cases b with
  | true => exact iteT (sa env σ c1 _ (hR.ext e1 w1) hF1)
  | false => exact iteF (sb env σ c1 _ (hR.ext e1 w1) hF1)
def nIf (t : LE → M Bool) (m n : LE → M O) : LE → M O := fun env => t env >>= fun b => if b = true then m env else n env

/-! ### arguments, displays -/
def aNil : LE → M (List D) := fun _ => pure []
def aCons (m : LE → M D) (n : LE → M (List D)) : LE → M (List D) := fun env => m env >>= fun x => n env >>= fun r => pure (x :: r)
theorem sa_nil : SA X C W [] aNil := ⟨_, pa_nil, fun env σ c Q hR hF => Fn.ok hR.wf hF _ DenL.nil⟩
theorem sa_cons {e : Expr} {es : List Expr} {m : LE → M D} {n : LE → M (List D)} (h : SE X C W e m) (k : SA X C W es n) (hs : starEach (e :: es) X.env = (false, eval e X.env) :: starEach es X.env := by rfl) : SA X C W (e :: es) (aCons m n) := by
  obtain ⟨t, p, s⟩ := h.out
  obtain ⟨t', p', s'⟩ := k.out
  refine ⟨_, pa_cons p p' hs, fun env σ c Q hR hF => ?_⟩
  refine s env σ c _ hR (Fn.bind hF fun x c1 e1 w1 hF1 v d1 => ?_)
  refine s' env σ c1 _ (hR.ext e1 w1) (Fn.bind hF1 fun ds c2 e2 w2 hF2 vs d2 => ?_)
  exact Fn.ok w2 hF2 _ (.cons (d1.mono e2.g e2.pre) d2)
def szOk (n : Nat) : Bool := decide (n ≤ 1000000)
theorem szOk_line {n : Nat} (h : szOk n = true) : n ≤ sizeLine := Nat.le_trans (of_decide_eq_true h) (by decide)
theorem szOk_lt {n : Nat} (h : szOk n = true) : n < sizeLine := Nat.lt_of_le_of_lt (of_decide_eq_true h) (by decide)
def guardM (b : Bool) : M Unit := if b = true then pure () else mStuck
theorem Fn.guard {c : Cf} {α : Type} {b : Bool} {f : Unit → M α} {K : α → Cf → Prop} {E : XK} (h : Fn C c ((guardM b >>= f) c.s) K E) : b = true ∧ Fn C c (f () c.s) K E := by
  cases b with
  | true => exact ⟨rfl, h⟩
  | false => exact False.elim h
def eTup (m : LE → M (List D)) : LE → M D := fun env => m env >>= fun ds => guardM (szOk ds.length) >>= fun _ => pure (.tup ds)
theorem se_tup {es : List Expr} {m : LE → M (List D)} {x1} {pos : Pos} (h : SA X C W es m) : SE X C W (.Tuple es x1 pos) (eTup m) := by
  obtain ⟨t, p, s⟩ := h.out
  refine ⟨_, pe_tup p, fun env σ c Q hR hF => ?_⟩
  refine s env σ c _ hR (Fn.bind hF fun ds c1 e1 w1 hF1 vs d1 => ?_)
  obtain ⟨hz, hF2⟩ := Fn.guard hF1
  refine ⟨by rw [d1.length]; exact szOk_line hz, fun p hp => ?_⟩
  obtain ⟨w2, e2⟩ := lay_frozen (o := .tup vs) w1 hp
  have hF3 := Fn.ok w2 (Fn.mono e2 hF2)
  exact hF3 _ ⟨p, vs, rfl, SqT.of upd_same, d1.mono e2.g e2.pre⟩
def nLst (m : LE → M (List D)) : LE → M O := fun env => m env >>= fun ds => guardM (szOk ds.length) >>= fun _ => pure (.lst ds)
theorem New.of {c0 c : Cf} {p : Addr} {o : HO} {u : O} (e : Ext c0 c) (w : WF C c) (hp : c.H p = none) (h : OR C c.G c.ρ u p o) : New C c0 ⟨upd c.H p o, c.G, c.ρ, c.s⟩ u p :=
  ⟨e.free hp, w.gfree hp, w.rfree hp, ⟨o, upd_same, h⟩⟩
theorem sn_lst {es : List Expr} {m : LE → M (List D)} {pos : Pos} (h : SA X C W es m) : SN X C W (.List es pos) (nLst m) := by
  obtain ⟨t, p, s⟩ := h.out
  refine ⟨_, pe_lst p, fun env σ c Q hR hF => ?_⟩
  refine s env σ c _ hR (Fn.bind hF fun ds c1 e1 w1 hF1 vs d1 => ?_)
  obtain ⟨hz, hF2⟩ := Fn.guard hF1
  refine ⟨by rw [d1.length]; exact szOk_line hz, fun p hp => ?_⟩
  obtain ⟨w2, e2⟩ := lay_new (o := .lst vs) w1 hp
  exact Fn.ok w2 (Fn.mono e2 hF2) p (.of e1 w1 hp ⟨vs, rfl, d1⟩)
/-- a new container, frozen at once -/
def O.dat : O → M D
  | .lst ds => pure (.lst ds)
  | .dct kvs => pure (.dct kvs)
  | .ins _ _ => mStuck
  | .lk _ => mStuck
def eFrz (m : LE → M O) : LE → M D := fun env => m env >>= O.dat
theorem New.frz {c0 c : Cf} {p : Addr} {u : O} (e : Ext c0 c) (w : WF C c) (n : New C c0 c u p) : ∃ ho, c.H p = some ho ∧ OR C c.G c.ρ u p ho ∧ WF C ⟨c.H, upd c.G p ho, c.ρ, c.s⟩ ∧ Ext c0 ⟨c.H, upd c.G p ho, c.ρ, c.s⟩ ∧ Gr c.G (upd c.G p ho) := by
  obtain ⟨ho, h1, h2⟩ := n.at'
  obtain ⟨w2, g2⟩ := freeze w h1 n.g n.r
  refine ⟨ho, h1, h2, w2, ⟨e.g.trans g2, fun a g d => ?_, e.kp, e.dom, e.pr, e.lk⟩, g2⟩
  have na : a ≠ p := fun z => by subst z; exact d n.fresh
  show upd c.G p ho a = none
  rw [upd_ne na]
  exact e.fr a g d
theorem se_frz {e : Expr} {m : LE → M O} (h : SN X C W e m) : SE X C W e (eFrz m) := by
  obtain ⟨t, p, s⟩ := h.out
  refine ⟨t, p, fun env σ c Q hR hF => ?_⟩
  refine s env σ c _ hR (Fn.bind0 hF fun o c1 e1 w1 hF1 p n => ?_)
  obtain ⟨ho, h1, h2, w2, e2, g2⟩ := n.frz e1 w1
  cases o with
  | lst ds =>
    obtain ⟨vs, rfl, l⟩ := h2
    exact hF1 ⟨c1.H, upd c1.G p (.lst vs), c1.ρ, c1.s⟩ rfl e2 w2 _ ⟨p, vs, rfl, upd_same, l.mono g2 (Pre.refl _)⟩
  | dct kvs =>
    obtain ⟨vs, rfl, l⟩ := h2
    exact hF1 ⟨c1.H, upd c1.G p (.dK vs), c1.ρ, c1.s⟩ rfl e2 w2 _ ⟨p, vs, rfl, upd_same, l.mono g2 (Pre.refl _)⟩
  | ins a b => exact False.elim hF1
  | lk a => exact False.elim hF1
end
end DL
set_option Elab.async false
set_option linter.all false
set_option maxRecDepth 100000
set_option maxHeartbeats 2000000
/-! # Operators and built-ins by values -/
namespace DL
open PySem L2
section
variable {X : Cx} {C : Ct} {W : WX}
/-! ### whole numbers -/
def oI (g : Int → Int → Int) : D → D → M D
  | .int i, .int j => pure (.int (g i j))
  | _, _ => mStuck
def oIg (P : Int → Int → Bool) (g : Int → Int → Int) : D → D → M D
  | .int i, .int j => guardM (P i j) >>= fun _ => pure (.int (g i j))
  | _, _ => mStuck
def oC (g : Int → Int → Bool) : D → D → M D
  | .int i, .int j => pure (.bl (g i j))
  | _, _ => mStuck
theorem simI {g : Int → Int → Int} : SimO C (rI0 fun i j => .int (g i j)) (oI g) := by
  intro c x y v w Q E wf dx dy hF
  cases x <;> cases y <;> first | exact False.elim hF | skip
  exact ⟨_, _, dx, dy, Fn.ok wf hF _ rfl⟩
theorem simIg {P : Int → Int → Bool} {R : Int → Int → Prop} {g : Int → Int → Int} (h : ∀ i j, P i j = true → R i j) : SimO C (rI R fun i j => .int (g i j)) (oIg P g) := by
  intro c x y v w Q E wf dx dy hF
  cases x <;> cases y <;> first | exact False.elim hF | skip
  obtain ⟨hp, hF2⟩ := Fn.guard hF
  exact ⟨_, _, dx, dy, h _ _ hp, Fn.ok wf hF2 _ rfl⟩
theorem simC {g : Int → Int → Bool} : SimO C (rI0 fun i j => .bl (g i j)) (oC g) := by
  intro c x y v w Q E wf dx dy hF
  cases x <;> cases y <;> first | exact False.elim hF | skip
  exact ⟨_, _, dx, dy, Fn.ok wf hF _ rfl⟩
def oSub : D → D → M D := oI fun i j => i - j
def mulOk (i j : Int) : Bool := (decide (-(2 ^ 64) < i) && decide (i < 2 ^ 64)) || (decide (-(2 ^ 64) < j) && decide (j < 2 ^ 64))
def oMul : D → D → M D := oIg mulOk fun i j => i * j
def divOk (_ j : Int) : Bool := decide (0 < j) && decide (j < 2 ^ 64)
def oDiv : D → D → M D := oIg divOk fun i j => i / j
def oMod : D → D → M D := oIg (fun _ j => decide (0 < j)) fun i j => i % j
def powOk (i j : Int) : Bool := decide (0 ≤ j) && decide (j ≤ 1000) && decide (i.natAbs < 2 ^ 64)
def oPow : D → D → M D := oIg powOk fun i j => i ^ j.toNat
theorem s_sub : SimO C (rI0 fun i j => .int (i - j)) oSub := simI
theorem s_mul : SimO C (rI CMul fun i j => .int (i * j)) oMul := simIg fun i j h => by
  unfold mulOk at h
  rw [Bool.or_eq_true, Bool.and_eq_true, Bool.and_eq_true] at h
  rcases h with ⟨a, b⟩ | ⟨a, b⟩
  · exact .inl ⟨of_decide_eq_true a, of_decide_eq_true b⟩
  · exact .inr ⟨of_decide_eq_true a, of_decide_eq_true b⟩
theorem s_div : SimO C (rI CDivW fun i j => .int (i / j)) oDiv := simIg fun i j h => by
  unfold divOk at h
  rw [Bool.and_eq_true] at h
  have h1 : 0 < j := of_decide_eq_true h.1
  have h2 : j < 2 ^ 64 := of_decide_eq_true h.2
  refine wide_div (b := 64) h1 ?_ (by decide) (by decide)
  have : ((j.natAbs : Nat) : Int) < 2 ^ 64 := by omega
  exact_mod_cast this
theorem s_mod : SimO C (rI (fun _ j => 0 < j) fun i j => .int (i % j)) oMod := simIg fun i j h => of_decide_eq_true h
theorem s_pow : SimO C (rI CPow fun i j => .int (i ^ j.toNat)) oPow := simIg fun i j h => by
  unfold powOk at h
  rw [Bool.and_eq_true, Bool.and_eq_true] at h
  exact ⟨of_decide_eq_true h.1.1, Int.le_trans (of_decide_eq_true h.1.2) (by decide), of_decide_eq_true h.2⟩

/-! ### + of anything -/
def oAdd : D → D → M D
  | .int i, .int j => pure (.int (i + j))
  | .str a, .str b => guardM (szOk (a.length + b.length)) >>= fun _ => pure (.str (a ++ b))
  | .lst a, .lst b => guardM (szOk (a.length + b.length)) >>= fun _ => pure (.lst (a ++ b))
  | .tup a, .tup b => guardM (szOk (a.length + b.length)) >>= fun _ => pure (.tup (a ++ b))
  | _, _ => mStuck
def rAddU (K : PySem.W.Frag) : R2 := fun x y H Q => (rI0 fun i j => .int (i + j)) x y H Q ∨ (∃ i j, x = .str i ∧ y = .str j ∧ i.length + j.length ≤ sizeLine ∧ Q (.str (i ++ j)) H) ∨ rCat x y H Q ∨ rCatA K x y H Q
theorem op_addU : OpR X (binaryOp .Add) (rAddU X.K) := op_add.or (op_add_str.or (op_cat.or op_catA))
theorem s_add : SimO C (rAddU C.K) oAdd := by
  intro c x y v w Q E wf dx dy hF
  cases x <;> cases y <;> first | exact False.elim hF | skip
  · exact .inl ⟨_, _, dx, dy, Fn.ok wf hF _ rfl⟩
  · obtain ⟨hz, hF2⟩ := Fn.guard hF
    exact .inr (.inl ⟨_, _, dx, dy, szOk_line hz, Fn.ok wf hF2 _ rfl⟩)
  · obtain ⟨hz, hF2⟩ := Fn.guard hF
    refine .inr (.inr (.inr ?_))
    obtain ⟨a, vs, rfl, ha, la⟩ := dx
    obtain ⟨b, ws, rfl, hb, lb⟩ := dy
    refine ⟨a, b, vs, ws, rfl, rfl, wf.ext.sqt ha, wf.ext.sqt hb, by rw [la.length, lb.length]; exact szOk_line hz, fun e => ?_, fun _ e => ?_, fun _ _ p hp => ?_⟩
    · subst e
      refine Fn.ok wf hF2 _ ⟨b, ws, rfl, hb, ?_⟩
      have := la.append lb
      exact this
    · subst e
      refine Fn.ok wf hF2 _ ⟨a, vs, rfl, ha, ?_⟩
      have := la.append lb
      rw [List.append_nil] at this
      exact this
    · obtain ⟨w2, e2⟩ := lay_frozen (o := .tup (vs ++ ws)) wf hp
      exact Fn.ok w2 (Fn.mono e2 hF2) _ ⟨p, _, rfl, SqT.of upd_same, (la.append lb).mono e2.g e2.pre⟩
  · obtain ⟨hz, hF2⟩ := Fn.guard hF
    refine .inr (.inr (.inl ?_))
    obtain ⟨a, vs, rfl, ha, la⟩ := dx
    obtain ⟨b, ws, rfl, hb, lb⟩ := dy
    refine ⟨a, b, vs, ws, rfl, rfl, wf.ext _ _ ha, wf.ext _ _ hb, by rw [la.length, lb.length]; exact szOk_line hz, fun p hp => ?_⟩
    obtain ⟨w2, e2⟩ := lay_frozen (o := .lst (vs ++ ws)) wf hp
    exact Fn.ok w2 (Fn.mono e2 hF2) _ ⟨p, _, rfl, upd_same, (la.append lb).mono e2.g e2.pre⟩

/-! ### order -/
def cpsLt (a b : Str) : Bool := decide (a.cps.toList < b.cps.toList)
def oLt : D → D → M D
  | .int i, .int j => pure (.bl (decide (i < j)))
  | .str a, .str b => pure (.bl (cpsLt a b))
  | _, _ => mStuck
def rLtU : R2 := fun x y H Q => (rI0 fun i j => .bl (decide (i < j))) x y H Q ∨ ∃ i j, x = .str i ∧ y = .str j ∧ Q (.bl (decide (i.cps.toList < j.cps.toList))) H
theorem op_ltU : OpR X (compareOp .Lt) rLtU := op_lt.or op_lt_str
theorem s_lt : SimO C rLtU oLt := by
  intro c x y v w Q E wf dx dy hF
  cases x <;> cases y <;> first | exact False.elim hF | skip
  · exact .inl ⟨_, _, dx, dy, Fn.ok wf hF _ rfl⟩
  · exact .inr ⟨_, _, dx, dy, Fn.ok wf hF _ rfl⟩
def oLe : D → D → M D := oC fun i j => decide (i ≤ j)
def oGt : D → D → M D := oC fun i j => decide (j < i)
def oGe : D → D → M D := oC fun i j => decide (j ≤ i)
theorem s_le : SimO C (rI0 fun i j => .bl (decide (i ≤ j))) oLe := simC
theorem s_gt : SimO C (rI0 fun i j => .bl (decide (j < i))) oGt := simC
theorem s_ge : SimO C (rI0 fun i j => .bl (decide (j ≤ i))) oGe := simC

/-! ### equality -/
mutual
def D.py : D → Option PyData
  | .non => some .none
  | .bl b => some (.bool b)
  | .int i => some (.int i)
  | .str s => some (.str s)
  | .tup ds => (pyL ds).map .tuple
  | .lst ds => (pyL ds).map .list
  | .scr ns => some (.list (ns.map .int))
  | _ => none
def pyL : List D → Option (List PyData)
  | [] => some []
  | d :: ds => match d.py, pyL ds with
    | some p, some ps => some (p :: ps)
    | _, _ => none
end
theorem dpInts {K : PySem.W.Frag} {H : Hp} : ∀ ns : List Int, DpAll K H (ns.map V.int) (ns.map PyData.int)
  | [] => .nil
  | n :: ns => .cons (.int n) (dpInts ns)
mutual
theorem Den.dp {G H : Hp} {ρ : List Addr} (hG : Gr G H) : ∀ (d : D) (v : V) (p : PyData), Den C G ρ d v → d.py = some p → Dp C.K H v p
  | .non, v, p, h, e => by simp only [D.py, Option.some.injEq] at e; subst e; simp only [Den] at h; subst h; exact .non
  | .bl b, v, p, h, e => by simp only [D.py, Option.some.injEq] at e; subst e; simp only [Den] at h; subst h; exact .bl b
  | .int b, v, p, h, e => by simp only [D.py, Option.some.injEq] at e; subst e; simp only [Den] at h; subst h; exact .int b
  | .str b, v, p, h, e => by simp only [D.py, Option.some.injEq] at e; subst e; simp only [Den] at h; subst h; exact .str b
  | .tup ds, v, p, h, e => by
    simp only [D.py, Option.map_eq_some_iff] at e
    obtain ⟨ps, e, rfl⟩ := e
    simp only [Den] at h
    obtain ⟨a, vs, rfl, s, l⟩ := h
    exact .tup (hG.sqt s) (DenL.dp hG ds vs ps l e)
  | .lst ds, v, p, h, e => by
    simp only [D.py, Option.map_eq_some_iff] at e
    obtain ⟨ps, e, rfl⟩ := e
    simp only [Den] at h
    obtain ⟨a, vs, rfl, s, l⟩ := h
    exact .lst (SqL.of (hG _ _ s)) (DenL.dp hG ds vs ps l e)
  | .scr ns, v, p, h, e => by
    simp only [D.py, Option.some.injEq] at e
    subst e
    simp only [Den] at h
    obtain ⟨a, rfl, s⟩ := h
    exact .lst (hG.sql s) (dpInts ns)
  | .dct _, v, p, h, e => by simp [D.py] at e
  | .loc _, v, p, h, e => by simp [D.py] at e
  | .ob _, v, p, h, e => by simp [D.py] at e
theorem DenL.dp {G H : Hp} {ρ : List Addr} (hG : Gr G H) : ∀ (ds : List D) (vs : List V) (ps : List PyData), DenL C G ρ ds vs → pyL ds = some ps → DpAll C.K H vs ps
  | [], vs, ps, h, e => by simp only [pyL, Option.some.injEq] at e; subst e; simp only [DenL] at h; subst h; exact .nil
  | d :: ds, vs, ps, h, e => by
    simp only [DenL] at h
    obtain ⟨v, r, rfl, h1, h2⟩ := h
    simp only [pyL] at e
    cases e1 : d.py with
    | none => rw [e1] at e; simp at e
    | some p =>
      cases e2 : pyL ds with
      | none => rw [e1, e2] at e; simp at e
      | some qs =>
        rw [e1, e2] at e
        simp only [Option.some.injEq] at e
        subst e
        exact .cons (Den.dp hG d v p h1 e1) (DenL.dp hG ds r qs h2 e2)
end
/-- the answer of ==, where it is told -/
def leafEq : D → D → Option Bool
  | .int i, .int j => some (decide (i = j))
  | .str a, .str b => some (decide (a = b))
  | .bl a, .bl b => some (a == b)
  | .non, .non => some true
  | .non, .int _ | .int _, .non | .non, .bl _ | .bl _, .non | .non, .str _ | .str _, .non | .int _, .str _ | .str _, .int _ | .bl _, .str _ | .str _, .bl _ => some false
  | _, _ => none
def deepEq (x y : D) : Option Bool := match x.py, y.py with
  | some p, some q => if SeqAt.shaped p && SeqAt.shaped q then some (PyData.eqv p q) else none
  | _, _ => none
def eqD? (x y : D) : Option Bool := match leafEq x y with
  | some b => some b
  | none => deepEq x y
def optM {α : Type} : Option α → M α
  | some a => pure a
  | none => mStuck
def oEq (x y : D) : M D := optM (eqD? x y) >>= fun b => pure (.bl b)
def oNe (x y : D) : M D := optM (eqD? x y) >>= fun b => pure (.bl (!b))
theorem deep_py {x y : D} {b : Bool} (h : deepEq x y = some b) : ∃ p q, x.py = some p ∧ y.py = some q ∧ SeqAt.shaped p = true ∧ SeqAt.shaped q = true ∧ PyData.eqv p q = b := by
  unfold deepEq at h
  cases e1 : x.py with
  | none => rw [e1] at h; simp at h
  | some p =>
    cases e2 : y.py with
    | none => rw [e1, e2] at h; simp at h
    | some q =>
      rw [e1, e2] at h
      simp only at h
      split at h
      · rename_i hs
        rw [Bool.and_eq_true] at hs
        exact ⟨p, q, rfl, rfl, hs.1, hs.2, Option.some.inj h⟩
      · cases h
theorem leaf_scal {G : Hp} {ρ : List Addr} {x y : D} {v w : V} {b : Bool} (dx : Den C G ρ x v) (dy : Den C G ρ y w) (h : leafEq x y = some b) : scal v w = true ∧ decide (v = w) = b := by
  cases x <;> cases y <;> first
    | (simp only [leafEq] at h; cases h; done)
    | (simp only [Den] at dx dy; subst dx dy; simp only [leafEq, Option.some.injEq] at h; subst h; refine ⟨rfl, ?_⟩; first | rfl | (rw [dec_bl]; done) | simp)
theorem Fn.optM {c : Cf} {α β : Type} {o : Option α} {f : α → M β} {K : β → Cf → Prop} {E : XK} (h : Fn C c ((optM o >>= f) c.s) K E) : ∃ a, o = some a ∧ Fn C c (f a c.s) K E := by
  cases o with
  | some a => exact ⟨a, rfl, h⟩
  | none => exact False.elim h
def rEqU (K : PySem.W.Frag) : R2 := fun x y H Q => rEq x y H Q ∨ rEqD K x y H Q
def rNeU (K : PySem.W.Frag) : R2 := fun x y H Q => rNe x y H Q ∨ rNeD K x y H Q
theorem op_eqU (hu : X.A.units + 64 < cLine) : OpR X (compareOp .Eq) (rEqU X.K) := op_eq.or (op_eqD hu)
theorem op_neU (hu : X.A.units + 64 < cLine) : OpR X (compareOp .NotEq) (rNeU X.K) := op_ne.or (op_neD hu)
theorem s_eq : SimO C (rEqU C.K) oEq := by
  intro c x y v w Q E wf dx dy hF
  obtain ⟨b, hb, hF2⟩ := Fn.optM hF
  unfold eqD? at hb
  cases e : leafEq x y with
  | some b' =>
    rw [e] at hb
    cases hb
    obtain ⟨h1, h2⟩ := leaf_scal dx dy e
    refine .inl ⟨h1, ?_⟩
    rw [h2]
    exact Fn.ok wf hF2 _ rfl
  | none =>
    rw [e] at hb
    obtain ⟨p, q, e1, e2, s1, s2, e3⟩ := deep_py hb
    refine .inr ⟨p, q, dx.dp wf.ext _ _ _ e1, dy.dp wf.ext _ _ _ e2, s1, s2, ?_⟩
    rw [e3]
    exact Fn.ok wf hF2 _ rfl
theorem s_ne : SimO C (rNeU C.K) oNe := by
  intro c x y v w Q E wf dx dy hF
  obtain ⟨b, hb, hF2⟩ := Fn.optM hF
  unfold eqD? at hb
  cases e : leafEq x y with
  | some b' =>
    rw [e] at hb
    cases hb
    obtain ⟨h1, h2⟩ := leaf_scal dx dy e
    refine .inl ⟨h1, ?_⟩
    rw [h2]
    exact Fn.ok wf hF2 _ rfl
  | none =>
    rw [e] at hb
    obtain ⟨p, q, e1, e2, s1, s2, e3⟩ := deep_py hb
    refine .inr ⟨p, q, dx.dp wf.ext _ _ _ e1, dy.dp wf.ext _ _ _ e2, s1, s2, ?_⟩
    rw [e3]
    exact Fn.ok wf hF2 _ rfl
def D.isNon : D → Bool
  | .non => true
  | _ => false
def oIs (x y : D) : M D := match y with
  | .non => pure (.bl x.isNon)
  | _ => mStuck
def oIsNot (x y : D) : M D := match y with
  | .non => pure (.bl (!x.isNon))
  | _ => mStuck
def D.noOb : D → Bool
  | .ob _ => false
  | _ => true
theorem Den.non_iff {G : Hp} {ρ : List Addr} {x : D} {v : V} (h : Den C G ρ x v) (n : x.noOb = true) : decide (v = .non) = x.isNon := by
  cases x with
  | non => simp only [Den] at h; subst h; rfl
  | bl b => simp only [Den] at h; subst h; rfl
  | int b => simp only [Den] at h; subst h; rfl
  | str b => simp only [Den] at h; subst h; rfl
  | tup b => obtain ⟨a, vs, rfl, _⟩ := h; rfl
  | lst b => obtain ⟨a, vs, rfl, _⟩ := h; rfl
  | dct b => obtain ⟨a, vs, rfl, _⟩ := h; rfl
  | scr b => obtain ⟨a, rfl, _⟩ := h; rfl
  | loc b => obtain ⟨a, rfl, _⟩ := h; rfl
  | ob b => cases n
  | cls b => simp only [Den] at h; subst h; rfl
  | exn b fs => obtain ⟨a, dx, gs, rfl, _⟩ := h; rfl
theorem s_is : SimO C (fun x y H Q => y = .non ∧ Q (.bl (decide (x = .non))) H) (fun x y => if x.noOb then oIs x y else mStuck) := by
  intro c x y v w Q E wf dx dy hF
  cases e : x.noOb with
  | false => simp only [e] at hF; exact False.elim hF
  | true =>
    simp only [e, if_true] at hF
    cases y <;> first | exact False.elim hF | skip
    refine ⟨dy, ?_⟩
    rw [dx.non_iff e]
    exact Fn.ok wf hF _ rfl
theorem s_isnot : SimO C (fun x y H Q => y = .non ∧ Q (.bl (!decide (x = .non))) H) (fun x y => if x.noOb then oIsNot x y else mStuck) := by
  intro c x y v w Q E wf dx dy hF
  cases e : x.noOb with
  | false => simp only [e] at hF; exact False.elim hF
  | true =>
    simp only [e, if_true] at hF
    cases y <;> first | exact False.elim hF | skip
    refine ⟨dy, ?_⟩
    rw [dx.non_iff e]
    exact Fn.ok wf hF _ rfl
end
end DL
set_option Elab.async false
set_option linter.all false
set_option maxRecDepth 100000
set_option maxHeartbeats 2000000
/-! # Statements -/
namespace DL
open PySem L2
/-- how a statement ends -/
inductive Fl where
  | nx (env : LE) | rt (d : D) | bk (env : LE) | ct (env : LE) | xc (k : XC) (fs : List (Str × D)) (env : LE)
abbrev SR := Option (Fl × S)
abbrev SM := LE → S → SR

/-- slots and cells, since the entry c0 -/
structure RlS (C : Ct) (c0 : Cf) (env : LE) (σ : St) (c : Cf) : Prop where
  rl : Rl C env σ c
  ext : Ext c0 c
  mine : ∀ (i : Nat) (o : O) (a : Addr), env[i]? = some (some (.own o)) → σ[i]? = some (some (.ref a)) → c0.H a = none
theorem RlS.step {C : Ct} {c0 : Cf} {env : LE} {σ : St} {c c' : Cf} (h : RlS C c0 env σ c) (e : Ext c c') (w : WF C c') : RlS C c0 env σ c' := ⟨h.rl.ext e w, h.ext.trans e, h.mine⟩

/-- since b: what was frozen stays -/
structure Since (b c : Cf) : Prop where
  g : Gr b.G c.G
  r : Pre b.ρ c.ρ
  lk : ∀ a o u, b.H a = some (.frz o u) → c.H a = some (.frz o u)
theorem Since.refl (c : Cf) : Since c c := ⟨Gr.refl _, Pre.refl _, fun _ _ _ e => e⟩
theorem Since.trans {a b c : Cf} (h : Since a b) (k : Since b c) : Since a c := ⟨h.g.trans k.g, h.r.trans k.r, fun a o u e => k.lk a o u (h.lk a o u e)⟩
theorem Ext.since {a b : Cf} (h : Ext a b) : Since a b := ⟨h.g, h.pre, h.lk⟩
def FS (C : Ct) (c0 b : Cf) (W : WX) (E : Ends) (r : SR) : Prop := match r with
  | none => False
  | some (.nx env, s) => ∀ σ c, c.s = s → RlS C c0 env σ c → Since b c → E.nx σ c.H
  | some (.rt d, s) => ∀ v c, c.s = s → Ext c0 c → WF C c → Den C c.G c.ρ d v → E.rt v c.H
  | some (.bk env, s) => ∀ σ c, c.s = s → RlS C c0 env σ c → Since b c → E.bk σ c.H
  | some (.ct env, s) => ∀ σ c, c.s = s → RlS C c0 env σ c → Since b c → E.ct σ c.H
  | some (.xc (.own k) fs env, s) => ∀ σ c dx gs, c.s = s → RlS C c0 env σ c → Since b c → c.G dx = some (.xd gs) → DenF C c.G c.ρ fs gs → W (.ref (C.ca k)) (some dx) σ c.H
  | some (.xc (.bi n) fs env, s) => ∀ σ c, c.s = s → RlS C c0 env σ c → Since b c → W (.type n) none σ c.H
theorem FS.mono {C : Ct} {c0 b b' : Cf} {W : WX} {E : Ends} {r : SR} (x : Since b b') (h : FS C c0 b W E r) : FS C c0 b' W E r := by
  cases r with
  | none => exact h
  | some p =>
    obtain ⟨f, s⟩ := p
    cases f with
    | nx env => exact fun σ c q R y => h σ c q R (x.trans y)
    | rt d => exact h
    | bk env => exact fun σ c q R y => h σ c q R (x.trans y)
    | ct env => exact fun σ c q R y => h σ c q R (x.trans y)
    | xc k fs env =>
      cases k with
      | own k => exact fun σ c dx gs q R y => h σ c dx gs q R (x.trans y)
      | bi n => exact fun σ c q R y => h σ c q R (x.trans y)
def SimS (C : Ct) (c0 : Cf) (W : WX) (t : TS) (m : SM) : Prop :=
  ∀ env σ c E, RlS C c0 env σ c → FS C c0 c W E (m env c.s) → t E σ c.H
structure SS1 (X : Cx) (C : Ct) (c0 : Cf) (W : WX) (st : Stmt) (m : SM) : Prop where
  out : ∃ t, PS X st t ∧ SimS C c0 W t m
structure SS (X : Cx) (C : Ct) (c0 : Cf) (W : WX) (st : List Stmt) (m : SM) : Prop where
  out : ∃ t, PSs X st t ∧ SimS C c0 W t m

/-- an expression's value, then the rest -/
def sE {α : Type} (m : LE → M α) (k : α → SM) : SM := fun env s => match m env s with
  | .ok d s' => k d env s'
  | .exc x fs s' => some (.xc x fs env, s')
  | .stuck => none
section
variable {X : Cx} {C : Ct} {c0 : Cf} {W : WX}
theorem FS.fn {α : Type} {m : LE → M α} {k : α → SM} {env : LE} {σ : St} {c : Cf} {E : Ends} {K : α → Cf → Prop} (hR : RlS C c0 env σ c) (hF : FS C c0 c W E (sE m k env c.s))
    (h : ∀ a c', Ext c c' → WF C c' → RlS C c0 env σ c' → FS C c0 c' W E (k a env c'.s) → K a c') : Fn C c (m env c.s) K (fun a b H => W a b σ H) := by
  unfold sE at hF
  cases e : m env c.s with
  | ok d s' =>
    rw [e] at hF
    intro c' q x w
    exact h d c' x w (hR.step x w) (by rw [q]; exact hF.mono x.since)
  | exc x fs s' =>
    rw [e] at hF
    cases x with
    | own k => exact fun c' dx gs q x w hd hf => hF σ c' dx gs q (hR.step x w) x.since hd hf
    | bi n => exact fun c' q x w => hF σ c' q (hR.step x w) x.since
  | stuck => rw [e] at hF; exact False.elim hF

/-! ### small statements -/
def sSeq (m n : SM) : SM := fun env s => match m env s with
  | some (.nx env', s') => n env' s'
  | r => r
def sNext : SM := fun env s => some (.nx env, s)
theorem sim_seq {t u : TS} {m n : SM} (h : SimS C c0 W t m) (k : SimS C c0 W u n) : SimS C c0 W (tSeq t u) (sSeq m n) := by
  intro env σ c E hR hF
  refine h env σ c _ hR ?_
  unfold sSeq at hF
  cases e : m env c.s with
  | none => rw [e] at hF; exact hF
  | some r =>
    obtain ⟨f, s'⟩ := r
    rw [e] at hF
    cases f with
    | nx env' =>
      intro σ' c' q hR' y
      exact k env' σ' c' E hR' (by rw [q]; exact FS.mono y hF)
    | rt d => exact hF
    | bk env' => exact hF
    | ct env' => exact hF
    | xc x fs env' => cases x <;> exact hF
theorem ss_nil : SS X C c0 W [] sNext := ⟨_, pss_nil, fun env σ c E hR hF => hF σ c rfl hR (Since.refl _)⟩
theorem ss_cons {st : Stmt} {rest : List Stmt} {m n : SM} (h : SS1 X C c0 W st m) (k : SS X C c0 W rest n) : SS X C c0 W (st :: rest) (sSeq m n) := by
  obtain ⟨t, p, s⟩ := h.out
  obtain ⟨t', p', s'⟩ := k.out
  exact ⟨_, pss_cons p p', sim_seq s s'⟩
theorem ss_one {st : Stmt} {m : SM} (h : SS1 X C c0 W st m) : SS X C c0 W [st] m := by
  obtain ⟨t, p, s⟩ := h.out
  exact ⟨_, pss_one p, s⟩
theorem s1_pass {pos : Pos} : SS1 X C c0 W (.Pass pos) sNext := ⟨_, ps_pass, fun env σ c E hR hF => hF σ c rfl hR (Since.refl _)⟩
def sBrk : SM := fun env s => some (.bk env, s)
def sCnt : SM := fun env s => some (.ct env, s)
theorem s1_break {pos : Pos} : SS1 X C c0 W (.Break pos) sBrk := ⟨_, ps_break, fun env σ c E hR hF => hF σ c rfl hR (Since.refl _)⟩
theorem s1_continue {pos : Pos} : SS1 X C c0 W (.Continue pos) sCnt := ⟨_, ps_continue, fun env σ c E hR hF => hF σ c rfl hR (Since.refl _)⟩
/-- a statement that no walk comes to -/
theorem s1_never {st : Stmt} : SS1 X C c0 W st (fun _ _ => none) := ⟨_, ps_never, fun env σ c E hR hF => hF⟩
theorem ss_never {st : List Stmt} : SS X C c0 W st (fun _ _ => none) := ⟨_, pss_never, fun env σ c E hR hF => hF⟩
def sExpr (m : LE → M D) : SM := sE m fun _ => sNext
theorem s1_expr {e : Expr} {m : LE → M D} {pos : Pos} (h : SE X C W e m) (hs : swapsWith e none pos.line X.env = pure false := by rfl) : SS1 X C c0 W (.Expr e pos) (sExpr m) := by
  obtain ⟨t, p, s⟩ := h.out
  exact ⟨_, ps_expr p hs, fun env σ c E hR hF => s env σ c _ hR.rl (hF.fn hR fun d c' x w hR' hF' v dn => hF' σ c' rfl hR' (Since.refl _))⟩
def sRet (m : LE → M D) : SM := sE m fun d _ s => some (.rt d, s)
theorem s1_ret {e : Expr} {m : LE → M D} {pos : Pos} (h : SE X C W e m) : SS1 X C c0 W (.Return (some e) pos) (sRet m) := by
  obtain ⟨t, p, s⟩ := h.out
  exact ⟨_, ps_ret p, fun env σ c E hR hF => s env σ c _ hR.rl (hF.fn hR fun d c' x w hR' hF' v dn => hF' v c' rfl hR'.ext w dn)⟩
def sRetN : SM := fun _ s => some (.rt .non, s)
theorem s1_retN {pos : Pos} : SS1 X C c0 W (.Return none pos) sRetN := ⟨_, ps_retN, fun env σ c E hR hF => hF _ c rfl hR.ext hR.rl.wf rfl⟩
def sIf (t : LE → M Bool) (m n : SM) : SM := sE t fun b => if b = true then m else n
theorem s1_if {e : Expr} {a b : List Stmt} {t : LE → M Bool} {m n : SM} {pos : Pos} (h : STe X C W e t) (ha : SS X C c0 W a m) (hb : SS X C c0 W b n) : SS1 X C c0 W (.If e a b pos) (sIf t m n) := by
  obtain ⟨tc, pc, sc⟩ := h.out
  obtain ⟨ta, pa, sa⟩ := ha.out
  obtain ⟨tb, pb, sb⟩ := hb.out
  refine ⟨_, ps_if pc pa pb, fun env σ c E hR hF => sc env σ c _ hR.rl (hF.fn hR fun d c' x w hR' hF' => ?_)⟩
  cases d with
  | true => exact iteT (sa env σ c' E hR' hF')
  | false => exact iteF (sb env σ c' E hR' hF')

/-! ### slots stored -/
theorem Rl.set {env : LE} {σ : St} {c : Cf} {i : Nat} {d : D} {v : V} (h : Rl C env σ c) (dn : Den C c.G c.ρ d v) : Rl C (env.set i (some (.val d))) (σ.set i (some v)) c := by
  have key : ∀ {j : Nat} {x : SD}, (env.set i (some (.val d)))[j]? = some (some x) → (j = i ∧ x = .val d ∧ i < env.length) ∨ (j ≠ i ∧ env[j]? = some (some x)) := by
    intro j x q
    by_cases hj : j = i
    · subst hj
      by_cases hl : j < env.length
      · rw [List.getElem?_set_self hl] at q
        cases q
        exact .inl ⟨rfl, rfl, hl⟩
      · rw [List.getElem?_eq_none (by simpa using hl)] at q
        cases q
    · rw [List.getElem?_set_ne (Ne.symm hj)] at q
      exact .inr ⟨hj, q⟩
  refine ⟨h.wf, by simp [h.len], fun j x q => ?_, fun j o q => ?_, fun j k o u a q1 q2 q3 q4 => ?_⟩
  · rcases key q with ⟨rfl, e, hl⟩ | ⟨hj, q⟩
    · cases e
      exact ⟨v, List.getElem?_set_self (by rw [← h.len]; exact hl), dn⟩
    · rw [List.getElem?_set_ne (Ne.symm hj)]
      exact h.val j x q
  · rcases key q with ⟨rfl, e, hl⟩ | ⟨hj, q⟩
    · cases e
    · rw [List.getElem?_set_ne (Ne.symm hj)]
      exact h.own j o q
  · rcases key q1 with ⟨rfl, e, hl⟩ | ⟨hj, q1⟩
    · cases e
    · rcases key q2 with ⟨rfl, e, hl⟩ | ⟨hk, q2⟩
      · cases e
      · rw [List.getElem?_set_ne (Ne.symm hj)] at q3
        rw [List.getElem?_set_ne (Ne.symm hk)] at q4
        exact h.apart j k o u a q1 q2 q3 q4
theorem Rl.wipe1 {env : LE} {σ : St} {c : Cf} (i : Nat) (h : Rl C env σ c) : Rl C (env.set i none) (σ.set i none) c := by
  have key : ∀ {j : Nat} {x : SD}, (env.set i none)[j]? = some (some x) → j ≠ i ∧ env[j]? = some (some x) := by
    intro j x q
    by_cases hj : j = i
    · subst hj
      by_cases hl : j < env.length
      · rw [List.getElem?_set_self hl] at q
        cases q
      · rw [List.getElem?_eq_none (by simpa using hl)] at q
        cases q
    · rw [List.getElem?_set_ne (Ne.symm hj)] at q
      exact ⟨hj, q⟩
  refine ⟨h.wf, by simp [h.len], fun j x q => ?_, fun j o q => ?_, fun j k o u a q1 q2 q3 q4 => ?_⟩
  · obtain ⟨hj, q⟩ := key q
    rw [List.getElem?_set_ne (Ne.symm hj)]
    exact h.val j x q
  · obtain ⟨hj, q⟩ := key q
    rw [List.getElem?_set_ne (Ne.symm hj)]
    exact h.own j o q
  · obtain ⟨hj, q1⟩ := key q1
    obtain ⟨hk, q2⟩ := key q2
    rw [List.getElem?_set_ne (Ne.symm hj)] at q3
    rw [List.getElem?_set_ne (Ne.symm hk)] at q4
    exact h.apart j k o u a q1 q2 q3 q4
theorem RlS.set {env : LE} {σ : St} {c : Cf} {i : Nat} {d : D} {v : V} (h : RlS C c0 env σ c) (dn : Den C c.G c.ρ d v) : RlS C c0 (env.set i (some (.val d))) (σ.set i (some v)) c := by
  refine ⟨h.rl.set dn, h.ext, fun j o a q1 q2 => ?_⟩
  by_cases hj : j = i
  · subst hj
    by_cases hl : j < env.length
    · rw [List.getElem?_set_self hl] at q1
      cases q1
    · rw [List.getElem?_eq_none (by simpa using hl)] at q1
      cases q1
  · rw [List.getElem?_set_ne (Ne.symm hj)] at q1 q2
    exact h.mine j o a q1 q2
def sSet (i : Nat) (m : LE → M D) : SM := sE m fun d env s => some (.nx (env.set i (some (.val d))), s)
theorem s1_set (i : Nat) {x : Str} {e : Expr} {m : LE → M D} {pos pos' : Pos} (h : SE X C W e m) (hN : X.N.Nodup) (hi : X.N[i]? = some x := by rfl) (hx : Loc X.env.scope x := by first | exact .inl rfl | exact .inr rfl) (hs : swapsWith e (some (.Name x pos')) pos.line X.env = pure false := by rfl)
    (hf : X.fn x = true ∨ X.env.scope.names.lookup x = some .local := by first | exact .inl rfl | exact .inr rfl | assumption) : SS1 X C c0 W (.Assign [.Name x pos'] e pos) (sSet i m) := by
  obtain ⟨t, p, s⟩ := h.out
  exact ⟨_, ps_set hN hi hx p hs hf, fun env σ c E hR hF => s env σ c _ hR.rl (hF.fn hR fun d c' x w hR' hF' v dn => hF' _ c' rfl (hR'.set dn) (Since.refl _))⟩
/-- a slot that owns a new container -/
theorem RlS.own {env : LE} {σ : St} {c c1 : Cf} {i : Nat} {o : O} {p : Addr} (h : RlS C c0 env σ c) (e : Ext c c1) (w : WF C c1) (n : New C c c1 o p) : RlS C c0 (env.set i (some (.own o))) (σ.set i (some (.ref p))) c1 := by
  have h1 := h.step e w
  obtain ⟨ho, a1, a2⟩ := n.at'
  have key : ∀ {j : Nat} {x : SD}, (env.set i (some (.own o)))[j]? = some (some x) → (j = i ∧ x = .own o ∧ i < env.length) ∨ (j ≠ i ∧ env[j]? = some (some x)) := by
    intro j x q
    by_cases hj : j = i
    · subst hj
      by_cases hl : j < env.length
      · rw [List.getElem?_set_self hl] at q
        cases q
        exact .inl ⟨rfl, rfl, hl⟩
      · rw [List.getElem?_eq_none (by simpa using hl)] at q
        cases q
    · rw [List.getElem?_set_ne (Ne.symm hj)] at q
      exact .inr ⟨hj, q⟩
  have notp : ∀ (j : Nat) (u : O), env[j]? = some (some (.own u)) → σ[j]? ≠ some (some (V.ref p)) := fun j u q q2 => by
    obtain ⟨a, ho', b1, b2, b3, b4, _⟩ := h.rl.own j u q
    rw [q2] at b1
    cases b1
    rw [n.fresh] at b4
    cases b4
  have hl' : ∀ {j : Nat}, j < env.length → (σ.set j (some (V.ref p)))[j]? = some (some (V.ref p)) := fun hl => List.getElem?_set_self (by rw [← h.rl.len]; exact hl)
  refine ⟨⟨w, by simp [h.rl.len], fun j x q => ?_, fun j u q => ?_, fun j k u u' a q1 q2 q3 q4 => ?_⟩, h1.ext, fun j u a q1 q2 => ?_⟩
  · rcases key q with ⟨rfl, e', _⟩ | ⟨hj, q⟩
    · cases e'
    · rw [List.getElem?_set_ne (Ne.symm hj)]
      exact h1.rl.val j x q
  · rcases key q with ⟨rfl, e', hl⟩ | ⟨hj, q⟩
    · cases e'
      exact ⟨p, ho, hl' hl, n.g, n.r, a1, a2⟩
    · rw [List.getElem?_set_ne (Ne.symm hj)]
      exact h1.rl.own j u q
  · rcases key q1 with ⟨rfl, e', hl⟩ | ⟨hj, q1⟩
    · rcases key q2 with ⟨rfl, e'', _⟩ | ⟨hk, q2⟩
      · rfl
      · rw [hl' hl] at q3
        cases q3
        rw [List.getElem?_set_ne (Ne.symm hk)] at q4
        exact absurd q4 (notp k u' q2)
    · have q1' : env[j]? = some (some (.own u)) := q1
      rcases key q2 with ⟨rfl, e'', hl⟩ | ⟨hk, q2⟩
      · rw [hl' hl] at q4
        cases q4
        rw [List.getElem?_set_ne (Ne.symm hj)] at q3
        exact absurd q3 (notp j u q1')
      · rw [List.getElem?_set_ne (Ne.symm hj)] at q3
        rw [List.getElem?_set_ne (Ne.symm hk)] at q4
        exact h1.rl.apart j k u u' a q1 q2 q3 q4
  · rcases key q1 with ⟨rfl, e', hl⟩ | ⟨hj, q1⟩
    · rw [hl' hl] at q2
      cases q2
      exact h.ext.free n.fresh
    · rw [List.getElem?_set_ne (Ne.symm hj)] at q2
      exact h1.mine j u a q1 q2
def sOwn (i : Nat) (m : LE → M O) : SM := sE m fun o env s => some (.nx (env.set i (some (.own o))), s)
theorem s1_own (i : Nat) {x : Str} {e : Expr} {m : LE → M O} {pos pos' : Pos} (h : SN X C W e m) (hN : X.N.Nodup) (hi : X.N[i]? = some x := by rfl) (hx : Loc X.env.scope x := by first | exact .inl rfl | exact .inr rfl) (hs : swapsWith e (some (.Name x pos')) pos.line X.env = pure false := by rfl)
    (hf : X.fn x = true ∨ X.env.scope.names.lookup x = some .local := by first | exact .inl rfl | exact .inr rfl | assumption) : SS1 X C c0 W (.Assign [.Name x pos'] e pos) (sOwn i m) := by
  obtain ⟨t, p, s⟩ := h.out
  exact ⟨_, ps_set hN hi hx p hs hf, fun env σ c E hR hF => s env σ c _ hR.rl (hF.fn hR fun d c' x w hR' hF' p n => hF' _ c' rfl (hR.own x w n) (Since.refl _))⟩
end
end DL
set_option Elab.async false
set_option linter.all false
set_option maxRecDepth 100000
set_option maxHeartbeats 2000000
/-! # Own containers, cells, loops -/
namespace DL
open PySem L2
section
variable {X : Cx} {C : Ct} {c0 : Cf} {W : WX}
theorem get_set {α : Type} {l : List (Option α)} {i j : Nat} {y x : α} (h : (l.set i (some y))[j]? = some (some x)) : (j = i ∧ x = y ∧ i < l.length) ∨ (j ≠ i ∧ l[j]? = some (some x)) := by
  by_cases hj : j = i
  · subst hj
    by_cases hl : j < l.length
    · rw [List.getElem?_set_self hl] at h
      cases h
      exact .inl ⟨rfl, rfl, hl⟩
    · rw [List.getElem?_eq_none (by simpa using hl)] at h
      cases h
  · rw [List.getElem?_set_ne (Ne.symm hj)] at h
    exact .inr ⟨hj, h⟩
/-- a slot's own container changes -/
theorem RlS.write {env : LE} {σ : St} {c : Cf} {i : Nat} {o o' : O} {a : Addr} {ho' : HO} (h : RlS C c0 env σ c) (he : env[i]? = some (some (.own o))) (hs : σ[i]? = some (some (.ref a))) (n : OR C c.G c.ρ o' a ho') :
    RlS C c0 (env.set i (some (.own o'))) σ ⟨upd c.H a ho', c.G, c.ρ, c.s⟩ := by
  obtain ⟨b, ho, b1, b2, b3, b4, b5⟩ := h.rl.own i o he
  rw [hs] at b1
  cases b1
  have hm := h.mine i o a he hs
  have w := h.rl.wf
  refine ⟨⟨⟨fun x u e => ?_, w.len, w.nd, fun x hx => ?_, fun m u e => ?_⟩, by simp [h.rl.len], fun j x q => ?_, fun j u q => ?_, fun j k u u' x q1 q2 q3 q4 => ?_⟩, ⟨h.ext.g, h.ext.fr, fun x u e nx => ?_, fun x d => ?_, h.ext.pr, fun x z u e => by have ne : x ≠ a := (fun y => by subst y; rw [hm] at e; cases e); show upd c.H a ho' x = _; rw [upd_ne ne]; exact h.ext.lk x z u e⟩, fun j u x q1 q2 => ?_⟩
  · have ne : x ≠ a := fun z => by subst z; have e' : c.G x = some u := e; rw [b2] at e'; cases e'
    show upd c.H a ho' x = some u
    rw [upd_ne ne]
    exact w.ext x u e
  · have ne : x ≠ a := fun z => by subst z; exact b3 hx
    show upd c.H a ho' x ≠ none
    rw [upd_ne ne]
    exact w.dom x hx
  · obtain ⟨x, hx, r1, r2, r3, r4⟩ := w.cel m u e
    have ne : x ≠ a := fun z => by subst z; exact b3 (List.mem_of_getElem? r1)
    exact ⟨x, hx, r1, r2, by show upd c.H a ho' x = _; rw [upd_ne ne]; exact r3, r4⟩
  · rcases get_set q with ⟨rfl, e', _⟩ | ⟨hj, q⟩
    · cases e'
    · exact h.rl.val j x q
  · rcases get_set q with ⟨rfl, e', hl⟩ | ⟨hj, q⟩
    · cases e'
      exact ⟨a, ho', hs, b2, b3, upd_same, n⟩
    · obtain ⟨x, hx, r1, r2, r3, r4, r5⟩ := h.rl.own j u q
      have ne : x ≠ a := fun z => by subst z; exact hj (h.rl.apart j i u o x q he r1 hs)
      exact ⟨x, hx, r1, r2, r3, by show upd c.H a ho' x = _; rw [upd_ne ne]; exact r4, r5⟩
  · have q1' : ∃ u, env[j]? = some (some (.own u)) := by
      rcases get_set q1 with ⟨rfl, e', _⟩ | ⟨_, q⟩
      · exact ⟨o, he⟩
      · exact ⟨u, q⟩
    have q2' : ∃ u, env[k]? = some (some (.own u)) := by
      rcases get_set q2 with ⟨rfl, e', _⟩ | ⟨_, q⟩
      · exact ⟨o, he⟩
      · exact ⟨u', q⟩
    obtain ⟨v1, q1'⟩ := q1'
    obtain ⟨v2, q2'⟩ := q2'
    exact h.rl.apart j k v1 v2 x q1' q2' q3 q4
  · have ne : x ≠ a := fun z => by subst z; rw [hm] at e; cases e
    show upd c.H a ho' x = some u
    rw [upd_ne ne]
    exact h.ext.kp x u e nx
  · have ne : x ≠ a := fun z => by subst z; exact d hm
    show upd c.H a ho' x ≠ none
    rw [upd_ne ne]
    exact h.ext.dom x d
  · rcases get_set q1 with ⟨rfl, e', hl⟩ | ⟨hj, q1⟩
    · rw [hs] at q2
      cases q2
      exact hm
    · exact h.mine j u x q1 q2
/-- a slot's own container is given away: from now on it stays -/
def O.frz? : O → Option D
  | .lst ds => some (.lst ds)
  | .dct kvs => some (.dct kvs)
  | .ins _ _ => none
  | .lk _ => none
def frz (i : Nat) (env : LE) : LE := match env[i]? with
  | some (some (.own o)) => match o.frz? with
    | some d => env.set i (some (.val d))
    | none => env
  | _ => env
theorem RlS.frz {env : LE} {σ : St} {c : Cf} (i : Nat) (h : RlS C c0 env σ c) : ∃ G, RlS C c0 (frz i env) σ ⟨c.H, G, c.ρ, c.s⟩ ∧ Gr c.G G := by
  have same : ∃ G, RlS C c0 env σ ⟨c.H, G, c.ρ, c.s⟩ ∧ Gr c.G G := ⟨c.G, h, Gr.refl _⟩
  unfold DL.frz
  cases he : env[i]? with
  | none => exact same
  | some x =>
    cases x with
    | none => exact same
    | some sd =>
      cases sd with
      | val d => exact same
      | own o =>
        show ∃ G, RlS C c0 (match o.frz? with | some d => env.set i (some (.val d)) | none => env) σ ⟨c.H, G, c.ρ, c.s⟩ ∧ Gr c.G G
        cases ef : o.frz? with
        | none => exact same
        | some d =>
          obtain ⟨a, ho, b1, b2, b3, b4, b5⟩ := h.rl.own i o he
          obtain ⟨w2, g2⟩ := freeze h.rl.wf b4 b2 b3
          have hm := h.mine i o a he b1
          have dn : Den C (upd c.G a ho) c.ρ d (.ref a) := by
            cases o with
            | lst ds =>
              cases ef
              obtain ⟨vs, rfl, l⟩ := b5
              exact ⟨a, vs, rfl, upd_same, l.mono g2 (Pre.refl _)⟩
            | dct ds =>
              cases ef
              obtain ⟨vs, rfl, l⟩ := b5
              exact ⟨a, vs, rfl, upd_same, l.mono g2 (Pre.refl _)⟩
            | ins _ _ => cases ef
            | lk _ => cases ef
          refine ⟨upd c.G a ho, ⟨⟨w2, by simp [h.rl.len], fun j x q => ?_, fun j u q => ?_, fun j k u u' x q1 q2 q3 q4 => ?_⟩, ⟨h.ext.g.trans g2, fun x g d => ?_, h.ext.kp, h.ext.dom, h.ext.pr, h.ext.lk⟩, fun j u x q1 q2 => ?_⟩, g2⟩
          · rcases get_set q with ⟨rfl, e', _⟩ | ⟨hj, q⟩
            · cases e'
              exact ⟨_, b1, dn⟩
            · obtain ⟨v, r1, r2⟩ := h.rl.val j x q
              exact ⟨v, r1, r2.mono g2 (Pre.refl _)⟩
          · rcases get_set q with ⟨rfl, e', _⟩ | ⟨hj, q⟩
            · cases e'
            · obtain ⟨x, hx, r1, r2, r3, r4, r5⟩ := h.rl.own j u q
              have ne : x ≠ a := fun z => by subst z; exact hj (h.rl.apart j i u o x q he r1 b1)
              exact ⟨x, hx, r1, by show upd c.G a ho x = none; rw [upd_ne ne]; exact r2, r3, r4, r5.mono g2 (Pre.refl _)⟩
          · rcases get_set q1 with ⟨_, e', _⟩ | ⟨_, q1⟩
            · cases e'
            · rcases get_set q2 with ⟨_, e', _⟩ | ⟨_, q2⟩
              · cases e'
              · exact h.rl.apart j k u u' x q1 q2 q3 q4
          · have ne : x ≠ a := fun z => by subst z; exact d hm
            show upd c.G a ho x = none
            rw [upd_ne ne]
            exact h.ext.fr x g d
          · rcases get_set q1 with ⟨_, e', _⟩ | ⟨_, q1⟩
            · cases e'
            · exact h.mine j u x q1 q2
def sFrz (i : Nat) (m : SM) : SM := fun env s => m (frz i env) s
theorem ss_frz (i : Nat) {st : List Stmt} {m : SM} (h : SS X C c0 W st m) : SS X C c0 W st (sFrz i m) := by
  obtain ⟨t, p, s⟩ := h.out
  refine ⟨t, p, fun env σ c E hR hF => ?_⟩
  obtain ⟨G, h2, g2⟩ := hR.frz i
  exact s _ σ ⟨c.H, G, c.ρ, c.s⟩ E h2 (FS.mono ⟨g2, Pre.refl _, fun _ _ _ e => e⟩ hF)
theorem s1_frz (i : Nat) {st : Stmt} {m : SM} (h : SS1 X C c0 W st m) : SS1 X C c0 W st (sFrz i m) := by
  obtain ⟨t, p, s⟩ := h.out
  refine ⟨t, p, fun env σ c E hR hF => ?_⟩
  obtain ⟨G, h2, g2⟩ := hR.frz i
  exact s _ σ ⟨c.H, G, c.ρ, c.s⟩ E h2 (FS.mono ⟨g2, Pre.refl _, fun _ _ _ e => e⟩ hF)

/-! ### x.append(e) -/
def sApp (i : Nat) (m : LE → M D) : SM := fun env s => match env[i]? with
  | some (some (.own (.lst ds))) => sE m (fun d env s => if szOk ds.length = true then some (.nx (env.set i (some (.own (.lst (ds ++ [d]))))), s) else none) env s
  | _ => none
theorem s1_app (i : Nat) {x : Str} {e : Expr} {m : LE → M D} {p1 p2 p3 p4 : Pos} (h : SE X C W e m) (hN : X.N[i]? = some x := by rfl) (hv : Vis X.env.scope x := by first | exact Or.inl rfl | exact Or.inr (Or.inl rfl) | exact Or.inr (Or.inr rfl))
    (hb : ∀ {tv : TE} {ta : TA}, PE X (.Name x p1) tv → PA X [e] ta → PE X (.Call (.Attribute (.Name x p1) "append" p2) [e] [] p3) (tBM X.K "list" rAppend tv ta))
    (hst : starEach [e] X.env = (false, eval e X.env) :: starEach [] X.env := by rfl)
    (hs : swapsWith (.Call (.Attribute (.Name x p1) "append" p2) [e] [] p3) none p4.line X.env = pure false := by rfl)
    (hd : (x == ("__debug__" : Str)) = false := by decide) (hcd : (x == ("__classdict__" : Str)) = false := by decide) :
    SS1 X C c0 W (.Expr (.Call (.Attribute (.Name x p1) "append" p2) [e] [] p3) p4) (sApp i m) := by
  obtain ⟨te, pe, se⟩ := h.out
  refine ⟨_, ps_expr (hb (pe_var hN hv hd hcd) (pa_cons pe pa_nil hst)) hs, fun env σ c E hR hF => ?_⟩
  obtain ⟨ds, he, hF⟩ : ∃ ds, env[i]? = some (some (.own (.lst ds))) ∧ FS C c0 c W E (sE m (fun d env s => if szOk ds.length = true then some (.nx (env.set i (some (.own (.lst (ds ++ [d]))))), s) else none) env c.s) := by
    unfold sApp at hF
    cases q : env[i]? with
    | none => rw [q] at hF; exact False.elim hF
    | some o =>
      cases o with
      | none => rw [q] at hF; exact False.elim hF
      | some sd =>
        cases sd with
        | val d => rw [q] at hF; exact False.elim hF
        | own u =>
          cases u with
          | lst ds => rw [q] at hF; exact ⟨ds, rfl, hF⟩
          | dct ds => rw [q] at hF; exact False.elim hF
          | ins a b => rw [q] at hF; exact False.elim hF
          | lk a => rw [q] at hF; exact False.elim hF
  obtain ⟨a, ho, b1, b2, b3, b4, vs, rfl, l⟩ := hR.rl.own i _ he
  refine ⟨_, b1, .inl ⟨rfl, _, SqL.of b4⟩, se env σ c _ hR.rl (hF.fn hR fun d c' x w hR' hF' v dn => ?_)⟩
  obtain ⟨a', ho', b1', b2', b3', b4', vs', rfl, l'⟩ := hR'.rl.own i _ he
  rw [b1] at b1'
  cases b1'
  cases hz : szOk ds.length with
  | false => rw [hz] at hF'; exact False.elim hF'
  | true =>
    rw [hz] at hF'
    exact ⟨a, vs', v, rfl, rfl, b4', by rw [l'.length]; exact szOk_lt hz, hF' σ ⟨_, _, _, _⟩ rfl (hR'.write he b1 ⟨_, rfl, l'.append (.one dn)⟩) ⟨Gr.refl _, Pre.refl _, fun x z u e => by have ne : x ≠ a := (fun y => by subst y; rw [b4'] at e; cases e); show upd _ a _ x = _; rw [upd_ne ne]; exact e⟩⟩
end
end DL
set_option Elab.async false
set_option linter.all false
set_option maxRecDepth 100000
set_option maxHeartbeats 2000000
/-! # Cells, places, defs -/
namespace DL
open PySem L2
section
variable {X : Cx} {C : Ct} {c0 : Cf} {W : WX}
/-! ### cells -/
theorem WF.cell {c : Cf} {n : Nat} {o o' : O} {a : Addr} {ho' : HO} (w : WF C c) (hs : c.s[n]? = some (some o)) (hr : c.ρ[n]? = some a) (h : OR C c.G c.ρ o' a ho') (nf : ∀ kvs, o ≠ .lk kvs := by intro _ z; cases z) :
    WF C ⟨upd c.H a ho', c.G, c.ρ, c.s.set n (some o')⟩ ∧ Ext c ⟨upd c.H a ho', c.G, c.ρ, c.s.set n (some o')⟩ := by
  obtain ⟨a', ho, r1, r2, r3, r4⟩ := w.cel n o hs
  rw [hr] at r1
  cases r1
  have am : a ∈ c.ρ := List.mem_of_getElem? hr
  have nz : ∀ z u, c.H a ≠ some (.frz z u) := fun z u e => by
    rw [r3] at e
    cases o with
    | lst ds => obtain ⟨vs, rfl, _⟩ := r4; cases e
    | dct ds => obtain ⟨vs, rfl, _⟩ := r4; cases e
    | ins k fs => obtain ⟨dx, vs, rfl, _⟩ := r4; cases e
    | lk kvs => exact nf kvs rfl
  refine ⟨⟨fun x u e => ?_, by simp [w.len], w.nd, fun x hx => ?_, fun m u e => ?_⟩, ⟨Gr.refl _, fun x g d => g, fun x u e nx => ?_, fun x d => ?_, ⟨[], by simp⟩, fun x z u e => by have ne : x ≠ a := (fun y => by subst y; exact nz z u e); show upd c.H a ho' x = _; rw [upd_ne ne]; exact e⟩⟩
  · have ne : x ≠ a := fun z => by subst z; have e' : c.G x = some u := e; rw [r2] at e'; cases e'
    show upd c.H a ho' x = some u
    rw [upd_ne ne]
    exact w.ext x u e
  · show upd c.H a ho' x ≠ none
    by_cases ne : x = a
    · subst ne; rw [upd_same]; simp
    · rw [upd_ne ne]; exact w.dom x hx
  · rcases get_set e with ⟨rfl, e', _⟩ | ⟨hm, e⟩
    · cases e'
      exact ⟨a, ho', hr, r2, upd_same, h⟩
    · obtain ⟨x, hx, q1, q2, q3, q4⟩ := w.cel m u e
      have ne : x ≠ a := fun z => by
        subst z
        exact hm (nd_ix w.nd q1 hr)
      exact ⟨x, hx, q1, q2, by show upd c.H a ho' x = _; rw [upd_ne ne]; exact q3, q4⟩
  · have ne : x ≠ a := fun z => by subst z; exact nx am
    show upd c.H a ho' x = some u
    rw [upd_ne ne]
    exact e
  · show upd c.H a ho' x ≠ none
    by_cases ne : x = a
    · subst ne; rw [upd_same]; simp
    · rw [upd_ne ne]; exact d
def alloc (o : O) : M D := fun s => .ok (.loc s.length) (s ++ [some o])
def eLoc (m : LE → M O) : LE → M D := fun env => m env >>= alloc
theorem New.alloc {c c1 : Cf} {o : O} {p : Addr} (e : Ext c c1) (w : WF C c1) (n : New C c c1 o p) :
    WF C ⟨c1.H, c1.G, c1.ρ ++ [p], c1.s ++ [some o]⟩ ∧ Ext c ⟨c1.H, c1.G, c1.ρ ++ [p], c1.s ++ [some o]⟩ ∧ (c1.ρ ++ [p])[c1.s.length]? = some p := by
  obtain ⟨ho, h1, h2⟩ := n.at'
  have hp : Pre c1.ρ (c1.ρ ++ [p]) := ⟨[p], rfl⟩
  have hat : (c1.ρ ++ [p])[c1.s.length]? = some p := by rw [← w.len]; simp
  refine ⟨⟨w.ext, by simp [w.len], ?_, fun x hx => ?_, fun m u q => ?_⟩, ⟨e.g, e.fr, e.kp, e.dom, ?_, e.lk⟩, hat⟩
  · rw [List.nodup_append]
    refine ⟨w.nd, by simp, fun x hx y hy => ?_⟩
    have : y = p := by simpa using hy
    subst this
    exact fun z => n.r (z ▸ hx)
  · rcases List.mem_append.mp hx with hx | hx
    · exact w.dom x hx
    · have : x = p := by simpa using hx
      subst this
      show c1.H x ≠ none
      rw [h1]; simp
  · by_cases hm : m < c1.s.length
    · rw [List.getElem?_append_left hm] at q
      obtain ⟨x, hx, q1, q2, q3, q4⟩ := w.cel m u q
      exact ⟨x, hx, hp.get q1, q2, q3, q4.mono (Gr.refl _) hp⟩
    · have hml : m = c1.s.length := by
        have := (List.getElem?_eq_some_iff.mp q).1
        simp at this
        omega
      subst hml
      simp at q
      subst q
      exact ⟨p, ho, hat, n.g, h1, h2.mono (Gr.refl _) hp⟩
  · obtain ⟨more, q, f⟩ := e.pr
    refine ⟨more ++ [p], by show c1.ρ ++ [p] = _; rw [q, List.append_assoc], fun x hx => ?_⟩
    rcases List.mem_append.mp hx with hx | hx
    · exact f x hx
    · have : x = p := by simpa using hx
      subst this
      exact n.fresh
theorem se_loc {e : Expr} {m : LE → M O} (h : SN X C W e m) : SE X C W e (eLoc m) := by
  obtain ⟨t, p, s⟩ := h.out
  refine ⟨t, p, fun env σ c Q hR hF => ?_⟩
  refine s env σ c _ hR (Fn.bind0 hF fun o c1 e1 w1 hF1 p n => ?_)
  obtain ⟨w2, e2, hat⟩ := n.alloc e1 w1
  exact hF1 ⟨_, _, _, _⟩ rfl e2 w2 _ ⟨p, rfl, hat⟩

/-! ### lists that are read -/
def rdL : D → M (List D)
  | .lst ds => pure ds
  | .scr ns => pure (ns.map .int)
  | .loc n => fun s => match s[n]? with
    | some (some (.lst ds)) => .ok ds s
    | _ => .stuck
  | _ => mStuck
theorem denInts {G : Hp} {ρ : List Addr} : ∀ ns : List Int, DenL C G ρ (ns.map .int) (ns.map V.int)
  | [] => .nil
  | n :: ns => .cons rfl (denInts ns)
theorem rdL_sim {c : Cf} {x : D} {v : V} {β : Type} {f : List D → M β} {K : β → Cf → Prop} {E : XK} (w : WF C c) (dn : Den C c.G c.ρ x v) (h : Fn C c ((rdL x >>= f) c.s) K E) :
    ∃ p vs ds, v = .ref p ∧ SqL C.K c.H p vs ∧ DenL C c.G c.ρ ds vs ∧ Fn C c (f ds c.s) K E := by
  cases x <;> first | exact False.elim h | skip
  · obtain ⟨a, vs, rfl, ha, l⟩ := dn
    exact ⟨a, vs, _, rfl, SqL.of (w.ext _ _ ha), l, h⟩
  · obtain ⟨a, rfl, ha⟩ := dn
    exact ⟨a, _, _, rfl, w.ext.sql ha, denInts _, h⟩
  · rename_i n
    obtain ⟨a, rfl, ha⟩ := dn
    have h' : Fn C c (R.bind (match c.s[n]? with | some (some (.lst ds)) => R.ok ds c.s | _ => R.stuck) f) K E := h
    cases q : c.s[n]? with
    | none => rw [q] at h'; exact False.elim h'
    | some o =>
      cases o with
      | none => rw [q] at h'; exact False.elim h'
      | some o =>
        cases o with
        | lst ds =>
          rw [q] at h'
          obtain ⟨b, ho, r1, r2, r3, vs, rfl, l⟩ := w.cel n _ q
          rw [ha] at r1
          cases r1
          exact ⟨a, vs, ds, rfl, SqL.of r3, l, h'⟩
        | dct _ => rw [q] at h'; exact False.elim h'
        | ins _ _ => rw [q] at h'; exact False.elim h'
        | lk _ => rw [q] at h'; exact False.elim h'
theorem DenL.at' {G : Hp} {ρ : List Addr} {ds : List D} {vs : List V} {i : Int} {d : D} (h : DenL C G ρ ds vs) (e : atI ds i = some d) : ∃ v, atI vs i = some v ∧ Den C G ρ d v := by
  unfold atI at e ⊢
  rw [h.length]
  cases q : ixN ds.length i with
  | none => rw [q] at e; cases e
  | some j =>
    rw [q] at e
    obtain ⟨v, h1, h2⟩ := h.get' (i := j) e
    exact ⟨v, h1, h2⟩
def oIx (x i : D) : M D := match i with
  | .int i => match x with
    | .tup ds => optM (atI ds i)
    | .str z => guardM (szOk z.length) >>= fun _ => optM (atI z.cps.toList i) >>= fun c => pure (.str ⟨#[c]⟩)
    | x => rdL x >>= fun ds => optM (atI ds i)
  | _ => mStuck
theorem Fn.opt {c : Cf} {α : Type} {o : Option α} {K : α → Cf → Prop} {E : XK} (w : WF C c) (h : Fn C c ((DL.optM o : M α) c.s) K E) : ∃ a, o = some a ∧ K a c := by
  cases o with
  | some a => exact ⟨a, rfl, Fn.ok w h⟩
  | none => exact False.elim h
theorem s_ix : SimO C (rIx C.K) oIx := by
  intro c x y v w Q E wf dx dy hF
  cases y <;> first | exact False.elim hF | skip
  rename_i i
  have lists : ∀ x, Den C c.G c.ρ x v → Fn C c ((rdL x >>= fun ds => optM (atI ds i)) c.s) (KD C Q) E → rIxL C.K v w c.H Q := fun x dx hF => by
    obtain ⟨p, vs, ds, rfl, hq, l, hF2⟩ := rdL_sim wf dx hF
    obtain ⟨d, e, k⟩ := Fn.opt wf hF2
    obtain ⟨u, e2, dn⟩ := l.at' e
    exact ⟨p, vs, i, u, rfl, dy, hq, e2, k u dn⟩
  cases x <;> first
    | exact .inl (lists _ dx hF)
    | skip
  · obtain ⟨hz, hF2⟩ := Fn.guard hF
    obtain ⟨a, e, hF3⟩ := Fn.optM hF2
    exact .inr (.inr ⟨_, i, a, dx, dy, szOk_line hz, e, Fn.ok wf hF3 _ rfl⟩)
  · obtain ⟨d, e, k⟩ := Fn.opt wf hF
    obtain ⟨a, vs, rfl, hq, l⟩ := dx
    obtain ⟨u, e2, dn⟩ := l.at' e
    exact .inr (.inl ⟨a, vs, i, u, rfl, dy, wf.ext.sqt hq, e2, k u dn⟩)
def eIx : (LE → M D) → (LE → M D) → LE → M D := eBin oIx
theorem se_ix {a b : Expr} {ma mb : LE → M D} {pos : Pos} (ha : SE X C W a ma) (hb : SE X C W b mb) (hK : X.K = C.K := by rfl) (hs : PlainIx b := by exact fun _ _ => rfl) : SE X C W (.Subscript a b pos) (eIx ma mb) := by
  obtain ⟨ta, pa, sa⟩ := ha.out
  obtain ⟨tb, pb, sb⟩ := hb.out
  refine ⟨_, pe_ix ix_seq pa pb hs, ?_⟩
  rw [hK]
  exact sim_op s_ix sa sb

/-! ### slices -/
def SimOp (C : Ct) (W : WX) (t : TO) (m : LE → M (Option Int)) : Prop :=
  ∀ env σ c Q, Rl C env σ c → Fn C c (m env c.s) (fun o c' => Q o c'.H) (fun a b H => W a b σ H) → t σ c.H Q
structure SO (X : Cx) (C : Ct) (W : WX) (e : Option Expr) (m : LE → M (Option Int)) : Prop where
  out : ∃ t, PO X e t ∧ SimOp C W t m
def pNone : LE → M (Option Int) := fun _ => pure none
def asI : D → M (Option Int)
  | .int i => pure (some i)
  | _ => mStuck
def pSome (m : LE → M D) : LE → M (Option Int) := fun env => m env >>= asI
theorem so_none : SO X C W none pNone := ⟨_, po_none, fun env σ c Q hR hF => Fn.ok hR.wf hF⟩
theorem so_some {e : Expr} {m : LE → M D} (h : SE X C W e m) : SO X C W (some e) (pSome m) := by
  obtain ⟨t, p, s⟩ := h.out
  refine ⟨_, po_some p, fun env σ c Q hR hF => s env σ c _ hR (Fn.bind hF fun x c1 e1 w1 hF1 v dn => ?_)⟩
  cases x <;> first | exact False.elim hF1 | skip
  exact ⟨_, dn, Fn.ok w1 hF1⟩
def cutD (xs : List D) (lo hi : Option Int) : List D := (xs.drop (HT.sIx xs.length 0 lo)).take (HT.sIx xs.length xs.length hi - HT.sIx xs.length 0 lo)
theorem DenL.cut {G : Hp} {ρ : List Addr} {ds : List D} {vs : List V} (h : DenL C G ρ ds vs) (lo hi : Option Int) : DenL C G ρ (cutD ds lo hi) (cutV vs lo hi) := by
  unfold cutD cutV
  rw [h.length]
  exact (h.drop _).take _
def oSl (x : D) (lo hi : Option Int) : M D := match x with
  | .str z => guardM (szOk z.length) >>= fun _ => pure (.str (cutS z lo hi))
  | .tup ds => pure (.tup (cutD ds lo hi))
  | x => rdL x >>= fun ds => pure (.lst (cutD ds lo hi))
def rSlU (K : PySem.W.Frag) : V → Option Int → Option Int → Hp → VK → Prop := fun x lo hi H Q => rSlS x lo hi H Q ∨ rSlA K x lo hi H Q ∨ rSlL K x lo hi H Q
theorem sl_U : SlR X (rSlU X.K) := sl_str.or (sl_tupA.or sl_list)
theorem cut_whole {ds : List D} {lo hi : Option Int} (h : HT.sIx ds.length 0 lo = 0 ∧ HT.sIx ds.length ds.length hi = ds.length) : cutD ds lo hi = ds := by
  unfold cutD
  rw [h.1, h.2]
  simp
def eSl (m : LE → M D) (l h : LE → M (Option Int)) : LE → M D := fun env => m env >>= fun x => l env >>= fun a => h env >>= fun b => oSl x a b
theorem se_sl {e : Expr} {lo hi : Option Expr} {m : LE → M D} {l h : LE → M (Option Int)} {p2 pos : Pos} (he : SE X C W e m) (hl : SO X C W lo l) (hh : SO X C W hi h) (hK : X.K = C.K := by rfl) : SE X C W (.Subscript e (.Slice lo hi none p2) pos) (eSl m l h) := by
  obtain ⟨t, p, s⟩ := he.out
  obtain ⟨tl, pl, sl⟩ := hl.out
  obtain ⟨th, ph, sh⟩ := hh.out
  refine ⟨_, pe_slice sl_U p pl ph, fun env σ c Q hR hF => ?_⟩
  refine s env σ c _ hR (Fn.bind hF fun x c1 e1 w1 hF1 v d1 => ?_)
  have R1 := hR.ext e1 w1
  refine sl env σ c1 _ R1 (Fn.bind hF1 fun a c2 e2 w2 hF2 => ?_)
  have R2 := R1.ext e2 w2
  refine sh env σ c2 _ R2 (Fn.bind hF2 fun b c3 e3 w3 hF3 => ?_)
  have d3 := d1.mono (e2.g.trans e3.g) (e2.pre.trans e3.pre)
  rw [hK]
  have lists : ∀ x, Den C c3.G c3.ρ x v → Fn C c3 ((rdL x >>= fun ds => pure (.lst (cutD ds a b))) c3.s) (KD C Q) (fun a b H => W a b σ H) → rSlL C.K v a b c3.H Q := fun x dx hF => by
    obtain ⟨p, vs, ds, rfl, hq, l, hF2⟩ := rdL_sim w3 dx hF
    refine ⟨p, vs, rfl, hq, fun q hp => ?_⟩
    obtain ⟨w4, e4⟩ := lay_frozen (o := .lst (cutV vs a b)) w3 hp
    exact Fn.ok w4 (Fn.mono e4 hF2) _ ⟨q, _, rfl, upd_same, (l.cut a b).mono e4.g e4.pre⟩
  cases x <;> first
    | exact .inr (.inr (lists _ d3 hF3))
    | skip
  · obtain ⟨hz, hF4⟩ := Fn.guard hF3
    exact .inl ⟨_, d3, szOk_line hz, Fn.ok w3 hF4 _ rfl⟩
  · obtain ⟨p, vs, rfl, hq, l⟩ := d3
    refine .inr (.inl ⟨p, vs, rfl, w3.ext.sqt hq, fun hw => ?_, fun _ q hp => ?_⟩)
    · rw [l.length] at hw
      exact Fn.ok w3 hF3 _ (by rw [cut_whole hw]; exact ⟨p, vs, rfl, hq, l⟩)
    · obtain ⟨w4, e4⟩ := lay_frozen (o := .tup (cutV vs a b)) w3 hp
      exact Fn.ok w4 (Fn.mono e4 hF3) _ ⟨q, _, rfl, SqT.of upd_same, (l.cut a b).mono e4.g e4.pre⟩
end
end DL
set_option Elab.async false
set_option linter.all false
set_option maxRecDepth 100000
set_option maxHeartbeats 2000000
/-! # Defs and loops -/
namespace DL
open PySem L2
open PyProof.Rows hiding St
/-- room, and no guard around -/
structure RoomG (k : Nat) (A : Around) : Prop where
  room : Room k A
  gd : A.guards = some []
theorem RoomG.mono {j k : Nat} {A : Around} (r : RoomG k A) (h : j ≤ k) : RoomG j A := ⟨r.room.mono h, r.gd⟩
theorem RoomG.deeper {k : Nat} {A : Around} (r : RoomG (k + 1) A) (env : Env) : RoomG k (A.deeper env) := ⟨r.room.deeper env, r.gd⟩
theorem RoomG.units {k : Nat} {A : Around} (r : RoomG k A) : A.units + 64 < cLine := r.room.units

/-- the def at f does what its mirror says -/
structure FnG (P : Program) (w : World) (C : Ct) (mg : Str → Option Value) (base : Heap) (k : Nat) (f : Addr) (fd : FuncData) (ps : List Str) (m : List D → M D) : Prop where
  run : ∀ (A : Around) (outer : List Env) (s : Shared) (c : Cf) (args : Args) (us : List Value) (vs : List V) (ds : List D) (Q : VK) (E : XK), RoomG k A → Env0 P w C.K mg base A outer s c.H →
    BindsTo s fd args (ps.zip us) → Vals vs us → WF C c → DenL C c.G c.ρ ds vs → ds.length = ps.length → Fn C c (m ds c.s) (KD C Q) E →
    codeAny (model P w) A (.call (.ref f) args) (CR (L2.CX P w) outer P w c.H s Q E) s
theorem FnG.mono {P : Program} {w : World} {C : Ct} {mg : Str → Option Value} {base : Heap} {j k : Nat} {f : Addr} {fd : FuncData} {ps : List Str} {m : List D → M D} (F : FnG P w C mg base j f fd ps m) (h : j ≤ k) : FnG P w C mg base k f fd ps m :=
  ⟨fun A outer s c args us vs ds Q E hr => F.run A outer s c args us vs ds Q E (hr.mono h)⟩
/-- the slots at the entry -/
def ent (n : Nat) (ds : List D) : LE := ds.map (fun d => some (.val d)) ++ List.replicate (n - ds.length) none
def endFn : SR → R D
  | some (.nx _, s) => .ok .non s
  | some (.rt d, s) => .ok d s
  | some (.xc k fs _, s) => .exc k fs s
  | _ => .stuck
def mFn (n : Nat) (b : SM) : List D → M D := fun ds s => endFn (b (ent n ds) s)
theorem ent_get {n : Nat} {ds : List D} {i : Nat} {x : SD} (h : (ent n ds)[i]? = some (some x)) : ∃ d, ds[i]? = some d ∧ x = .val d := by
  unfold ent at h
  by_cases hi : i < ds.length
  · rw [List.getElem?_append_left (by simpa using hi), List.getElem?_map] at h
    cases e : ds[i]? with
    | none => rw [e] at h; cases h
    | some d =>
      rw [e] at h
      simp only [Option.map_some, Option.some.injEq] at h
      exact ⟨d, rfl, h.symm⟩
  · rw [List.getElem?_append_right (by simpa using hi), List.getElem?_replicate] at h
    split at h <;> cases h
theorem start_get {N : List Str} {vs : List V} {i : Nat} {v : V} (h : vs[i]? = some v) : (L2.start N vs)[i]? = some (some v) := by
  have hi : i < vs.length := (List.getElem?_eq_some_iff.mp h).1
  unfold L2.start
  rw [List.getElem?_append_left (by simpa using hi), List.getElem?_map, h]
  rfl
theorem rl_start {C : Ct} {c : Cf} {N : List Str} {ds : List D} {vs : List V} (w : WF C c) (dn : DenL C c.G c.ρ ds vs) : RlS C c (ent N.length ds) (L2.start N vs) c := by
  refine ⟨⟨w, ?_, fun i d q => ?_, fun i o q => ?_, fun i j o u a q1 _ _ _ => ?_⟩, Ext.refl c, fun i o a q _ => ?_⟩
  · unfold ent L2.start
    simp [dn.length]
  · obtain ⟨d', e, q'⟩ := ent_get q
    cases q'
    obtain ⟨v, h1, h2⟩ := dn.get' e
    exact ⟨v, start_get h1, h2⟩
  · obtain ⟨d', _, q'⟩ := ent_get q
    cases q'
  · obtain ⟨d', _, q'⟩ := ent_get q1
    cases q'
  · obtain ⟨d', _, q'⟩ := ent_get q
    cases q'
theorem fs_end {C : Ct} {c : Cf} {r : SR} {Q : VK} {E : XK} (h : Fn C c (endFn r) (KD C Q) E) : FS C c c (fun cls d _ H => E cls d H) { nx := fun _ H => Q .non H, rt := Q } r := by
  cases r with
  | none => exact h
  | some p =>
    obtain ⟨f, s⟩ := p
    cases f with
    | nx env => exact fun σ c' q hR _ => h c' q hR.ext hR.rl.wf .non rfl
    | rt d => exact fun v c' q x w dn => h c' q x w v dn
    | bk env => exact False.elim h
    | ct env => exact False.elim h
    | xc k fs env =>
      cases k with
      | own k => exact fun σ c' dx gs q hR _ hd hf => h c' dx gs q hR.ext hR.rl.wf hd hf
      | bi n => exact fun σ c' q hR _ => h c' q hR.ext hR.rl.wf
abbrev WF0 (E : XK) : WX := fun cls d _ H => E cls d H
section
variable {P : Program} {w : World} {C : Ct} {mg : Str → Option Value} {base : Heap}
theorem fn_mirror {x qual : Str} {st : Stmt} {f : Addr} {fd : FuncData} {N ps : List Str} {k : Nat} {b : SM} (F : Fun C.K x qual st f fd) (Sc : FnScope N ps (defScope st))
    (body : ∀ (cdv : Value) (A : Around) (outer : List Env) (s : Shared) (c : Cf) (E : XK), RoomG k (A.deeper (envOfC qual (defScope st) s.heap.objs.size f cdv)) →
      SS (cxOf (L2.CX P w) P w C.K mg base N qual (defScope st) f cdv A outer s c.H E) C c (WF0 E) (defBody st) b) : FnG P w C mg base (k + 1) f fd ps (mFn N.length b) := by
  obtain ⟨oc, od, kV, doc, pm, an, cdv, ct, osl, rfl, lk, hcd⟩ := F.ex
  constructor
  intro A outer s c args us vs ds Q E room e0 hb rv wf dn hl hF
  have kin : C.K.In s.heap := e0.mod.kin.keeps fun a o q => (e0.bs a o q).1
  have nolim : s.heap.NoLimit := e0.mod.nolimit.keeps fun a o q => (e0.bs a o q).1
  have hlv : vs.length = ps.length := dn.length.trans hl
  have kinds : ∀ y ∈ ps.zip us, (defScope st).names.lookup y.1 = some .local ∨ ((defScope st).names.lookup y.1 = some .cell ∧ ((cellsFrom (s.heap.objs.size + 1) (defScope st).names []).lookup y.1).isSome = true) := by
    rintro ⟨n, v⟩ hy
    exact (Sc.par n (List.of_mem_zip hy).1).imp id fun q => ⟨q, PySem.W.cellsFrom_some _ _ _ (.inl q)⟩
  refine codeAny_call_function room.room.depth (kin _ _ lk) rfl Sc.co Sc.gen rfl (PySem.W.codeRec_of kin hcd) (hb _ _ _ _ ?_)
  refine wpAny_newFunctionEnv_cells Sc.kind kinds fun env he s1 inC => ?_
  cases he
  refine ⟨nolim.keeps inC.toInCall.keep, codeAny_func ?_⟩
  obtain ⟨t, ht, hs⟩ := (body cdv A outer s c E (room.deeper _)).out
  have I := inv_start (CX := L2.CX P w) (E := E) Sc room.room.hd e0 hlv rv inC
  have q := hs _ _ c _ (rl_start (N := N) wf dn) (fs_end hF)
  refine wpAny_mono (ht.run [] s1 _ c.H _ I q) (fun fl s' z => ?_) fun _ _ z => z
  cases fl with
  | ret u => exact let ⟨v, σ', H', J, r, y⟩ := z; ⟨v, H', J.os, J.bare, J.base, J.hok, r, y⟩
  | next => exact let ⟨σ', H', J, y⟩ := z; ⟨.non, H', J.os, J.bare, J.base, J.hok, rfl, y⟩
  | brk => exact let ⟨_, _, _, y⟩ := z; False.elim y
  | cont => exact let ⟨_, _, _, y⟩ := z; False.elim y
end

/-! ### calls -/
section
variable {X : Cx} {C : Ct} {c0 : Cf} {W : WX} {k : Nat} {f : Addr} {fd : FuncData} {ps : List Str} {m : List D → M D}
theorem fn_run {pins : List (Addr × Obj)} {σ : L2.St} {c : Cf} {s : Shared} {Q : VK} {us : List Value} {vs : List V} {ds : List D} {args : Args} (hK : X.K = C.K) (F : FnG X.prog X.w C X.mg X.base k f fd ps m) (room : RoomG k X.A) (tk : Takes X W)
    (I : Inv X pins σ c.H s) (hb : BindsTo s fd args (ps.zip us)) (rv : Vals vs us) (wf : WF C c) (dn : DenL C c.G c.ρ ds vs) (hl : ds.length = ps.length) (hF : Fn C c (m ds c.s) (KD C Q) (fun a b H => W a b σ H)) :
    wpAny (model X.prog X.w) X.A (call (.ref f) args.pos args.kw) (EP X pins σ Q) X.xe s := by
  have e0 := I.env0
  rw [hK] at e0
  refine wpAny_call (codeAny_mono (F.run X.A X.stack s c args us vs ds Q (WE W σ) room e0 hb rv wf dn hl hF) fun r s' z => ?_)
  cases r with
  | error e => exact passAt tk σ pins c.H s e s' I z
  | ok fl =>
    cases fl with
    | ret u => exact I.after z
    | next => exact z.elim
    | brk => exact z.elim
    | cont => exact z.elim
/-- f(e, ..): the reading -/
def tCallG (C : Ct) (W : WX) (n : Nat) (m : List D → M D) (dvs : List V) (dds : List D) (t : TA) : TE := fun σ H Q => t σ H fun vs H1 => ∃ c ds, c.H = H1 ∧ WF C c ∧ DenL C c.G c.ρ ds vs ∧ (ds ++ dds).length = n ∧ DenL C c.G c.ρ dds dvs ∧ Fn C c (m (ds ++ dds) c.s) (KD C Q) (fun a b H => W a b σ H)
def eCall (n : Nat) (m : List D → M D) (dds : List D) (ma : LE → M (List D)) : LE → M D := fun env => ma env >>= fun ds => guardM (decide ((ds ++ dds).length = n)) >>= fun _ => m (ds ++ dds)
/-- the defaults that fill up -/
structure Dfl (C : Ct) (fd : FuncData) (ps : List Str) (dds : List D) : Prop where
  at' : ∃ dvs dus, Vals dvs dus ∧ Binds C.K fd ps dus ∧ ∀ G ρ, DenL C G ρ dds dvs
theorem Dfl.none {fd : FuncData} {ps : List Str} (h : Binds C.K fd ps []) : Dfl C fd ps [] := ⟨[], [], .nil, h, fun _ _ => .nil⟩
theorem se_call {x : Str} {p pos : Pos} {e : Expr} {es : List Expr} {ma : LE → M (List D)} {dds : List D} (F : FnG X.prog X.w C X.mg X.base k f fd ps m) (room : RoomG k X.A) (tk : Takes X W) (hm : X.mg x = some (.ref f)) (hk : PySem.W.keepIn C.K (.ref f) = true)
    (df : Dfl C fd ps dds) (ha : SA X C W (e :: es) ma) (hK : X.K = C.K := by rfl) (hg : Gl X x := by rfl) (hdb : (x == ("__debug__" : Str)) = false := by decide) (he : starEach (e :: es) X.env = (false, eval e X.env) :: starEach es X.env := by rfl)
    (hpl : (backTo pos (starEach es X.env)).any (·.1) = false := by rfl) : SE X C W (.Call (.Name x p) (e :: es) [] pos) (eCall ps.length m dds ma) := by
  obtain ⟨t, pa, sa⟩ := ha.out
  obtain ⟨dvs, dus, dv, db, dd⟩ := df.at'
  refine ⟨tCallG C W ps.length m dvs dds t, ⟨fun pins s σ H Q I h => ?_⟩, fun env σ c Q hR hF => ?_⟩
  · refine wpAny_Call_Name_kw (ld_glob I hg hm ?_ hdb)
    refine PySem.W.callWith_K (h₀ := X.base) I.ok.mod.kin (by rw [hK]; exact hk) (thn (pa.run pos pins s σ H _ I h) fun us s1 z => ?_) he hpl
    obtain ⟨vs, H1, I1, rv, c, ds, rfl, wf, dn, hl, d2, hF⟩ := z
    refine ⟨I1.kIn, ?_⟩
    have hlen : (us ++ dus).length = ps.length := by
      rw [← hl, List.length_append, List.length_append, ← rv.length, ← dv.length, dn.length, d2.length]
    exact fn_run (args := ⟨us, []⟩) (us := us ++ dus) hK F room tk I1 (db s1 us (by rw [← hK]; exact I1.kIn) hlen) (rv.append dv) wf (dn.append d2) hl hF
  · refine sa env σ c _ hR (Fn.bind hF fun ds c1 e1 w1 hF1 vs dn => ?_)
    obtain ⟨hz, hF2⟩ := Fn.guard hF1
    exact ⟨c1, ds, rfl, w1, dn, of_decide_eq_true hz, dd _ _, hF2⟩
theorem se_call0 {x : Str} {p pos : Pos} {dds : List D} (F : FnG X.prog X.w C X.mg X.base k f fd ps m) (room : RoomG k X.A) (tk : Takes X W) (hm : X.mg x = some (.ref f)) (hk : PySem.W.keepIn C.K (.ref f) = true)
    (df : Dfl C fd ps dds) (hK : X.K = C.K := by rfl) (hg : Gl X x := by rfl) (hdb : (x == ("__debug__" : Str)) = false := by decide) : SE X C W (.Call (.Name x p) [] [] pos) (eCall ps.length m dds aNil) := by
  obtain ⟨dvs, dus, dv, db, dd⟩ := df.at'
  refine ⟨tCallG C W ps.length m dvs dds tNil, ⟨fun pins s σ H Q I h => ?_⟩, fun env σ c Q hR hF => ?_⟩
  · refine wpAny_Call_Name_kw (ld_glob I hg hm ?_ hdb)
    obtain ⟨c, ds, rfl, wf, dn, hl, d2, hF⟩ := h
    have hlen : (([] : List Value) ++ dus).length = ps.length := by
      rw [← hl, List.length_append, List.length_append, ← dv.length, d2.length, ← dn.length]
      rfl
    refine PySem.W.callWith_K0 I.kIn (by rw [hK]; exact hk) ?_
    exact fn_run (args := ⟨[], []⟩) (us := [] ++ dus) hK F room tk I (db s [] (by rw [← hK]; exact I.kIn) hlen) (Vals.append .nil dv) wf (dn.append d2) hl hF
  · obtain ⟨hz, hF2⟩ := Fn.guard hF
    exact ⟨c, [], rfl, hR.wf, .nil, of_decide_eq_true hz, dd _ _, hF2⟩

/-! ### targets -/
/-- all slots but those at is stay, and none of these owns a thing -/
structure Still (is : List Nat) (env env' : LE) (σ σ' : St) : Prop where
  env : ∀ j, j ∉ is → env'[j]? = env[j]?
  st : ∀ j, j ∉ is → σ'[j]? = σ[j]?
  own : ∀ j ∈ is, ∀ o, env'[j]? ≠ some (some (.own o))
  len : σ'.length = σ.length
theorem Still.rls {is : List Nat} {env env' : LE} {σ σ' : L2.St} {c : Cf} (h : Still is env env' σ σ') (hR : RlS C c0 env σ c) (r : Rl C env' σ' c) : RlS C c0 env' σ' c := by
  refine ⟨r, hR.ext, fun i o a q1 q2 => ?_⟩
  by_cases hi : i ∈ is
  · exact absurd q1 (h.own i hi o)
  · rw [h.env i hi] at q1
    rw [h.st i hi] at q2
    exact hR.mine i o a q1 q2
abbrev GM := D → LE → Option LE
def SimG (C : Ct) (g : TG) (mg : GM) (is : List Nat) : Prop :=
  ∀ env σ c d v env' Q, Rl C env σ c → Den C c.G c.ρ d v → mg d env = some env' → (∀ σ', Rl C env' σ' c → Still is env env' σ σ' → Q σ' c.H) → g v σ c.H Q
structure SG (X : Cx) (C : Ct) (e : Expr) (mg : GM) (is : List Nat) : Prop where
  out : ∃ g, PG X e g ∧ SimG C g mg is
def gN (i : Nat) : GM := fun d env => some (env.set i (some (.val d)))
theorem Rl.setStill {env : LE} {σ : L2.St} {c : Cf} {d : D} {v : V} (i : Nat) (dn : Den C c.G c.ρ d v) : Still [i] env (env.set i (some (.val d))) σ (σ.set i (some v)) := by
  refine ⟨fun j hj => ?_, fun j hj => ?_, fun j hj o q => ?_, by simp⟩
  · rw [List.getElem?_set_ne (fun z => hj (by simp [z]))]
  · rw [List.getElem?_set_ne (fun z => hj (by simp [z]))]
  · have : j = i := by simpa using hj
    subst this
    rcases get_set q with ⟨_, e, _⟩ | ⟨hj, _⟩
    · cases e
    · exact hj rfl
theorem sim_gN (i : Nat) : SimG C (gName i) (gN i) [i] := by
  intro env σ c d v env' Q hR dn hm k
  have e : env.set i (some (.val d)) = env' := Option.some.inj hm
  subst e
  exact k _ (hR.set dn) (Rl.setStill i dn)
theorem sg_name (i : Nat) {x : Str} {pos : Pos} (hN : X.N.Nodup) (hi : X.N[i]? = some x := by rfl) (hx : Loc X.env.scope x := by first | exact .inl rfl | exact .inr rfl)
    (hf : X.fn x = true ∨ X.env.scope.names.lookup x = some .local := by first | exact .inl rfl | exact .inr rfl | assumption) : SG X C (.Name x pos) (gN i) [i] := ⟨_, pg_name hN hi hx hf, sim_gN i⟩
/-- several targets -/
abbrev GMs := List D → LE → Option LE
def SimGs (C : Ct) (g : TGs) (mg : GMs) (is : List Nat) : Prop :=
  ∀ env σ c ds vs env' Q, Rl C env σ c → DenL C c.G c.ρ ds vs → mg ds env = some env' → (∀ σ', Rl C env' σ' c → Still is env env' σ σ' → Q σ' c.H) → g vs σ c.H Q
structure SGs (X : Cx) (C : Ct) (es : List Expr) (mg : GMs) (is : List Nat) : Prop where
  out : ∃ g, PGs X es g ∧ SimGs C g mg is
def gsNil : GMs := fun ds env => match ds with
  | [] => some env
  | _ => none
def gsCons (g : GM) (r : GMs) : GMs := fun ds env => match ds with
  | d :: ds => (g d env).bind fun env' => r ds env'
  | [] => none
theorem Still.refl (env : LE) (σ : L2.St) : Still [] env env σ σ := ⟨fun _ _ => rfl, fun _ _ => rfl, fun _ h => absurd h (by simp), rfl⟩
theorem Still.trans {is js : List Nat} {env env1 env2 : LE} {σ σ1 σ2 : L2.St} (h : Still is env env1 σ σ1) (k : Still js env1 env2 σ1 σ2) : Still (is ++ js) env env2 σ σ2 := by
  refine ⟨fun j hj => ?_, fun j hj => ?_, fun j hj o => ?_, k.len.trans h.len⟩
  · rw [k.env j (fun z => hj (List.mem_append_right _ z)), h.env j (fun z => hj (List.mem_append_left _ z))]
  · rw [k.st j (fun z => hj (List.mem_append_right _ z)), h.st j (fun z => hj (List.mem_append_left _ z))]
  · by_cases h2 : j ∈ js
    · exact k.own j h2 o
    · rw [k.env j h2]
      rcases List.mem_append.mp hj with h1 | h1
      · exact h.own j h1 o
      · exact absurd h1 h2
theorem sgs_nil : SGs X C [] gsNil [] := ⟨_, pgs_nil, fun env σ c ds vs env' Q hR dn hm k => by
  cases ds with
  | nil =>
    have e : env = env' := Option.some.inj hm
    subst e
    have : vs = [] := by simpa only [DenL] using dn
    exact ⟨this, k σ hR (Still.refl _ _)⟩
  | cons d ds => cases hm⟩
theorem sgs_cons {e : Expr} {es : List Expr} {g : GM} {r : GMs} {is js : List Nat} (h : SG X C e g is) (h2 : SGs X C es r js) (hs : (assignEach (e :: es) X.env).map (·.2) = assign e X.env :: (assignEach es X.env).map (·.2) := by rfl) : SGs X C (e :: es) (gsCons g r) (is ++ js) := by
  obtain ⟨tg, p, s⟩ := h.out
  obtain ⟨ts, p2, s2⟩ := h2.out
  refine ⟨_, pgs_cons p p2 hs, fun env σ c ds vs env' Q hR dn hm k => ?_⟩
  cases ds with
  | nil => cases hm
  | cons d ds =>
    simp only [DenL] at dn
    obtain ⟨v, vr, rfl, d1, d2⟩ := dn
    obtain ⟨env1, e1, e2⟩ := Option.bind_eq_some_iff.mp hm
    exact ⟨v, vr, rfl, s env σ c d v env1 _ hR d1 e1 fun σ1 R1 S1 => s2 env1 σ1 c ds vr env' Q R1 d2 e2 fun σ2 R2 S2 => k σ2 R2 (S1.trans S2)⟩
def gTupM (n : Nat) (g : GMs) : GM := fun d env => match d with
  | .tup ds => if ds.length = n then g ds env else none
  | _ => none
theorem sg_tup {es : List Expr} {k : Nat} {g : GMs} {is : List Nat} {n : Nat} {pos : Pos} (hc : X.calm = true) (h : SGs X C es g is) (hK : X.K = C.K := by rfl)
    (hn : (assignEach es X.env).length = n := by rfl) (hst : (assignEach es X.env).findIdx? (·.1) = none := by rfl) : SG X C (.Tuple es k pos) (gTupM n g) is := by
  obtain ⟨tg, p, s⟩ := h.out
  refine ⟨_, pg_tup hc p hn hst, fun env σ c d v env' Q hR dn hm kk => ?_⟩
  cases d <;> first | cases hm; done | skip
  rename_i ds
  obtain ⟨a, vs, rfl, ha, l⟩ := dn
  have hm' : (if ds.length = n then g ds env else none) = some env' := hm
  by_cases hl : ds.length = n
  · rw [if_pos hl] at hm'
    exact ⟨a, vs, rfl, by rw [hK]; exact hR.wf.ext.sqt ha, l.length.trans hl, s env σ c ds vs env' Q hR l hm' kk⟩
  · rw [if_neg hl] at hm'
    cases hm'
end
end DL
set_option Elab.async false
set_option linter.all false
set_option maxRecDepth 100000
set_option maxHeartbeats 2000000
/-! # What is walked: loops, list comprehensions -/
namespace DL
open PySem L2
open PyProof.Rows hiding St
/-- the walk J goes through ds -/
def Walks (C : Ct) (c : Cf) (J : It) (ds : List D) : Prop := ∀ c2, Gr c.G c2.G → Pre c.ρ c2.ρ → WF C c2 → (∀ a o u, c.H a = some (.frz o u) → c2.H a = some (.frz o u)) → ∀ i : Nat,
  (∀ d, ds[i]? = some d → J.go i c2.H ∧ ∀ x H3, J.yld i c2.H x H3 → ∃ c3, c3.H = H3 ∧ c3.s = c2.s ∧ Ext c2 c3 ∧ WF C c3 ∧ Den C c3.G c3.ρ d x) ∧ (ds[i]? = none → J.stop i c2.H)
def SimI (C : Ct) (W : WX) (wi : TI) (m : LE → M (List D)) : Prop :=
  ∀ env σ c R, Rl C env σ c → Fn C c (m env c.s) (fun ds c' => ∀ J, Walks C c' J ds → R J c'.H) (fun a b H => W a b σ H) → wi σ c.H R
structure SI (X : Cx) (C : Ct) (W : WX) (tg iter : Expr) (m : LE → M (List D)) : Prop where
  out : ∃ wi, PI X tg iter wi ∧ SimI C W wi m
section
variable {X : Cx} {C : Ct} {c0 : Cf} {W : WX} {tg : Expr}
/-- a list, a tuple, a text -/
def iAny (K : PySem.W.Frag) (tl : TE) : TI := fun σ H R => tl σ H fun x H1 => (∃ a, x = .ref a ∧ (∃ xs, SqL K H1 a xs) ∧ R (Itl K a) H1) ∨ (∃ a, x = .ref a ∧ (∃ xs, SqT K H1 a xs) ∧ R (Itt K a) H1) ∨ ∃ z, x = .str z ∧ R (Its z) H1
theorem pi_any {l : Expr} {tl : TE} (hl : PE X l tl) : PI X tg l (iAny X.K tl) := by
  constructor
  intro pins s σ H R I h
  refine thn (hl.run pins s σ H _ I h) fun v s1 hv => ?_
  obtain ⟨x, H1, J1, rx, q⟩ := hv
  rcases q with ⟨a, rfl, ⟨xs, hq⟩, q⟩ | ⟨a, rfl, ⟨xs, hq⟩, q⟩ | ⟨z, rfl, q⟩
  · cases rx
    obtain ⟨its, _, pl, _⟩ := J1.list hq
    exact wpAny_pyIter_list pl.isList (pi_one (tk := s1.toks) J1 _ (turn_list a _) ⟨_, Heap.get?_push_size _ rfl, rfl, rfl⟩ q)
  · cases rx
    obtain ⟨its, _, pl, _⟩ := J1.tuple hq
    exact wpAny_pyIter_tuple (show s1.heap.IsTuple a its.toArray from pl) (pi_one (tk := s1.toks) J1 _ (turn_tuple a _) ⟨_, Heap.get?_push_size _ rfl, rfl, rfl⟩ q)
  · obtain ⟨t, rfl⟩ := rx
    cases wide : z.cps.all (· < 128) with
    | false => exact wpAny_pyIter_wide wide (pi_one (tk := s1.toks) J1 _ (turn_str _ z t "str_iterator" (.inr rfl)) ⟨_, Heap.get?_push_size _ rfl, rfl, rfl⟩ q)
    | true => exact wpAny_pyIter_ascii wide (pi_one (tk := s1.toks) J1 _ (turn_str _ z t "str_ascii_iterator" (.inl rfl)) ⟨_, Heap.get?_push_size _ rfl, rfl, rfl⟩ q)
theorem list_det {K : PySem.W.Frag} {G H : Hp} {a : Addr} {xs ys : List V} (h : G a = some (.lst xs)) (e : Gr G H) (k : SqL K H a ys) (n : K.lookup a = none) : ys = xs := by
  have e1 := e _ _ h
  rcases k with (k | ⟨o, k⟩) | ⟨o, its, m, k, _⟩
  · rw [e1] at k; cases k; rfl
  · rw [e1] at k; cases k
  · rw [n] at k; cases k
def signs (z : Str) : List D := z.cps.toList.map fun c => .str ⟨#[c]⟩
/-- the items that are walked; a cell's list is not walked here -/
def itemsOf : D → M (List D)
  | .lst ds => pure ds
  | .scr ns => pure (ns.map .int)
  | .tup ds => pure ds
  | .str z => pure (signs z)
  | _ => mStuck
theorem DenL.iff {G : Hp} {ρ : List Addr} {ds : List D} {vs : List V} (l : DenL C G ρ ds vs) (i : Nat) : (∀ d, ds[i]? = some d → ∃ v, vs[i]? = some v ∧ Den C G ρ d v) ∧ (ds[i]? = none → vs.length ≤ i) := by
  refine ⟨fun d e => l.get' e, fun e => ?_⟩
  rw [l.length]
  exact List.getElem?_eq_none_iff.mp e
theorem walks_list {c : Cf} {a : Addr} {ds : List D} {vs : List V} (ha : SqL C.K c.G a vs) (l : DenL C c.G c.ρ ds vs) : Walks C c (Itl C.K a) ds := by
  intro c2 g r w _ i
  obtain ⟨h1, h2⟩ := l.iff i
  have hq : SqL C.K c2.H a vs := (g.trans w.ext).sql ha
  refine ⟨fun d e => ?_, fun e => ⟨vs, hq, h2 e⟩⟩
  obtain ⟨v, e1, dn⟩ := h1 d e
  refine ⟨⟨vs, v, hq, e1⟩, fun x H3 y => ?_⟩
  obtain ⟨rfl, y⟩ := y
  have := y vs hq
  rw [e1] at this
  cases this
  exact ⟨c2, rfl, rfl, Ext.refl _, w, dn.mono g r⟩
theorem walks_tup {c : Cf} {a : Addr} {ds : List D} {vs : List V} (ha : SqT C.K c.G a vs) (l : DenL C c.G c.ρ ds vs) : Walks C c (Itt C.K a) ds := by
  intro c2 g r w _ i
  obtain ⟨h1, h2⟩ := l.iff i
  have hq : SqT C.K c2.H a vs := (g.trans w.ext).sqt ha
  refine ⟨fun d e => ?_, fun e => ⟨vs, hq, h2 e⟩⟩
  obtain ⟨v, e1, dn⟩ := h1 d e
  refine ⟨⟨vs, v, hq, e1⟩, fun x H3 y => ?_⟩
  obtain ⟨rfl, y⟩ := y
  have := y vs hq
  rw [e1] at this
  cases this
  exact ⟨c2, rfl, rfl, Ext.refl _, w, dn.mono g r⟩
theorem walks_str {c : Cf} (z : Str) : Walks C c (Its z) (signs z) := by
  intro c2 g r w _ i
  unfold signs
  refine ⟨fun d e => ?_, fun e => ?_⟩
  · rw [List.getElem?_map] at e
    cases q : z.cps.toList[i]? with
    | none => rw [q] at e; cases e
    | some n =>
      rw [q] at e
      simp only [Option.map_some, Option.some.injEq] at e
      subst e
      have q' : z.cps[i]? = some n := by simpa using q
      refine ⟨(Array.getElem?_eq_some_iff.mp q').1, fun x H3 y => ?_⟩
      obtain ⟨rfl, n', e2, rfl⟩ := y
      rw [q'] at e2
      cases e2
      exact ⟨c2, rfl, rfl, Ext.refl _, w, rfl⟩
  · rw [List.getElem?_map] at e
    have := Option.map_eq_none_iff.mp e
    show z.cps.size ≤ i
    have := List.getElem?_eq_none_iff.mp this
    simpa using this
def iItems (m : LE → M D) : LE → M (List D) := fun env => m env >>= itemsOf
theorem si_any {e : Expr} {m : LE → M D} (h : SE X C W e m) (hK : X.K = C.K := by rfl) : SI X C W tg e (iItems m) := by
  obtain ⟨t, p, s⟩ := h.out
  refine ⟨_, pi_any p, fun env σ c R hR hF => ?_⟩
  refine s env σ c _ hR (Fn.bind hF fun x c1 e1 w1 hF1 v dn => ?_)
  rw [hK]
  cases x <;> first | exact False.elim hF1 | skip
  · cases (show v = _ from dn)
    exact .inr (.inr ⟨_, rfl, Fn.ok w1 hF1 _ (walks_str _)⟩)
  · obtain ⟨a, vs, rfl, ha, l⟩ := dn
    exact .inr (.inl ⟨a, rfl, ⟨vs, w1.ext.sqt ha⟩, Fn.ok w1 hF1 _ (walks_tup ha l)⟩)
  · obtain ⟨a, vs, rfl, ha, l⟩ := dn
    exact .inl ⟨a, rfl, ⟨vs, SqL.of (w1.ext _ _ ha)⟩, Fn.ok w1 hF1 _ (walks_list (SqL.of ha) l)⟩
  · obtain ⟨a, rfl, ha⟩ := dn
    exact .inl ⟨a, rfl, ⟨_, w1.ext.sql ha⟩, Fn.ok w1 hF1 _ (walks_list ha (denInts _))⟩
def rangeD (lo hi : Int) : List D := (List.range (hi - lo).toNat).map fun i => .int (lo + (i : Nat))
theorem walks_range {c : Cf} (lo : Int) (n : Nat) : Walks C c (Itr lo n) ((List.range n).map fun i => .int (lo + (i : Nat))) := by
  intro c2 g r w _ i
  refine ⟨fun d e => ?_, fun e => ?_⟩
  · rw [List.getElem?_map] at e
    by_cases hi : i < n
    · rw [List.getElem?_range hi] at e
      cases e
      refine ⟨hi, fun x H3 y => ?_⟩
      obtain ⟨rfl, rfl⟩ := y
      exact ⟨c2, rfl, rfl, Ext.refl _, w, rfl⟩
    · rw [List.getElem?_eq_none (by simpa using hi)] at e
      cases e
  · have := List.getElem?_eq_none_iff.mp e
    show n ≤ i
    simpa using this
def rgOk (i : Int) : Bool := decide (-(2 ^ 62) ≤ i) && decide (i < 2 ^ 62)
theorem rgOk_iff {i : Int} (h : rgOk i = true) : -(2 ^ 62) ≤ i ∧ i < 2 ^ 62 := by
  unfold rgOk at h
  rw [Bool.and_eq_true] at h
  exact ⟨of_decide_eq_true h.1, of_decide_eq_true h.2⟩
def intOf : D → Option Int
  | .int i => some i
  | _ => none
def intsOf : List D → Option (List Int)
  | [] => some []
  | d :: ds => (intOf d).bind fun i => (intsOf ds).map (i :: ·)
theorem intsOf_den {G : Hp} {ρ : List Addr} : ∀ {ds : List D} {ns : List Int} {vs : List V}, intsOf ds = some ns → DenL C G ρ ds vs → vs = ns.map V.int
  | [], ns, vs, h, l => by
    cases h
    simp only [DenL] at l
    exact l
  | d :: ds, ns, vs, h, l => by
    simp only [DenL] at l
    obtain ⟨v, r, rfl, d1, d2⟩ := l
    obtain ⟨i, e1, e2⟩ := Option.bind_eq_some_iff.mp h
    obtain ⟨ms, e3, rfl⟩ := Option.map_eq_some_iff.mp e2
    cases d <;> first | (cases e1; done) | skip
    cases e1
    cases (show v = _ from d1)
    rw [intsOf_den e3 d2]
    rfl
def iRg1 (m : LE → M D) : LE → M (List D) := fun env => m env >>= fun d => optM (intOf d) >>= fun j => guardM (rgOk j) >>= fun _ => pure (rangeD 0 j)
def iRg2 (m n : LE → M D) : LE → M (List D) := fun env => m env >>= fun d => n env >>= fun d' => optM (intOf d) >>= fun i => optM (intOf d') >>= fun j => guardM (rgOk i && rgOk j) >>= fun _ => pure (rangeD i j)
theorem intOf_den {G : Hp} {ρ : List Addr} {d : D} {v : V} {i : Int} (h : intOf d = some i) (dn : Den C G ρ d v) : v = .int i := by
  cases d <;> first | (cases h; done) | skip
  cases h
  exact dn
theorem si_range1 {a : Expr} {m : LE → M D} {p pos : Pos} (hm : X.mg "range" = none) (h : SE X C W a m) (hg : Gl X "range" := by rfl) (hs : starEach [a] X.env = [(false, eval a X.env)] := by rfl) : SI X C W tg (.Call (.Name "range" p) [a] [] pos) (iRg1 m) := by
  obtain ⟨t, p, s⟩ := h.out
  refine ⟨_, pi_range1 hg hm (pa_cons p pa_nil hs) hs, fun env σ c R hR hF => ?_⟩
  refine s env σ c _ hR (Fn.bind hF fun d c1 e1 w1 hF1 v dn => ?_)
  obtain ⟨j, ej, hF2⟩ := Fn.optM hF1
  obtain ⟨hz, hF3⟩ := Fn.guard hF2
  obtain ⟨q1, q2⟩ := rgOk_iff hz
  refine ⟨j, by rw [intOf_den ej dn], q1, q2, Fn.ok w1 hF3 _ ?_⟩
  have := walks_range (C := C) (c := c1) 0 j.toNat
  unfold rangeD
  rw [Int.sub_zero]
  exact this
theorem si_range2 {a b : Expr} {m n : LE → M D} {p pos : Pos} (hm : X.mg "range" = none) (h : SE X C W a m) (k : SE X C W b n) (hg : Gl X "range" := by rfl) (hs : starEach [a, b] X.env = [(false, eval a X.env), (false, eval b X.env)] := by rfl)
    (hs2 : starEach [b] X.env = [(false, eval b X.env)] := by rfl) : SI X C W tg (.Call (.Name "range" p) [a, b] [] pos) (iRg2 m n) := by
  obtain ⟨t, p, s⟩ := h.out
  obtain ⟨t', p', s'⟩ := k.out
  refine ⟨_, pi_range2 hg hm (pa_cons p (pa_cons p' pa_nil hs2) (by rw [hs, hs2])) hs hs2, fun env σ c R hR hF => ?_⟩
  refine s env σ c _ hR (Fn.bind hF fun d c1 e1 w1 hF1 v dn => ?_)
  refine s' env σ c1 _ (hR.ext e1 w1) (Fn.bind hF1 fun d' c2 e2 w2 hF2 v' dn' => ?_)
  obtain ⟨i, ei, hF3⟩ := Fn.optM hF2
  obtain ⟨j, ej, hF4⟩ := Fn.optM hF3
  obtain ⟨hz, hF5⟩ := Fn.guard hF4
  rw [Bool.and_eq_true] at hz
  obtain ⟨q1, q2⟩ := rgOk_iff hz.1
  obtain ⟨q3, q4⟩ := rgOk_iff hz.2
  exact ⟨i, j, by rw [intOf_den ei dn, intOf_den ej dn'], ⟨q1, q2, q3, q4⟩, Fn.ok w2 hF5 _ (walks_range (C := C) (c := c2) i (j - i).toNat)⟩
/-- enumerate(l) -/
def enumD : Nat → List D → List D
  | _, [] => []
  | i, d :: ds => .tup [.int i, d] :: enumD (i + 1) ds
theorem enumD_get : ∀ (ds : List D) (k i : Nat), (enumD k ds)[i]? = (ds[i]?).map fun d => .tup [.int ((k + i : Nat) : Int), d]
  | [], k, i => by simp [enumD]
  | d :: ds, k, 0 => by simp [enumD]
  | d :: ds, k, i + 1 => by
    have := enumD_get ds (k + 1) i
    simp only [enumD, List.getElem?_cons_succ]
    rw [this]
    congr 2
    funext d
    congr 4
    omega
def listOf : D → M (List D)
  | .lst ds => pure ds
  | .scr ns => pure (ns.map .int)
  | _ => mStuck
theorem walks_enum {c : Cf} {a : Addr} {ds : List D} {vs : List V} (ha : SqL C.K c.G a vs) (l : DenL C c.G c.ρ ds vs) : Walks C c (Ite C.K a) (enumD 0 ds) := by
  intro c2 g r w _ i
  obtain ⟨h1, h2⟩ := l.iff i
  have hq : SqL C.K c2.H a vs := (g.trans w.ext).sql ha
  refine ⟨fun d e => ?_, fun e => ⟨vs, hq, h2 ?_⟩⟩
  · rw [enumD_get] at e
    cases q : ds[i]? with
    | none => rw [q] at e; cases e
    | some d' =>
      rw [q] at e
      simp only [Option.map_some, Option.some.injEq, Nat.zero_add] at e
      subst e
      obtain ⟨v, e1, dn⟩ := h1 d' q
      refine ⟨⟨vs, v, hq, e1⟩, fun x H3 y => ?_⟩
      obtain ⟨T, y0, rfl, hT, rfl, y⟩ := y
      have := y vs hq
      rw [e1] at this
      cases this
      obtain ⟨w3, e3⟩ := lay_frozen (o := .tup [.int (i : Nat), v]) w hT
      exact ⟨⟨_, _, c2.ρ, c2.s⟩, rfl, rfl, e3, w3, T, _, rfl, SqT.of upd_same, .cons rfl (.one ((dn.mono g r).mono e3.g e3.pre))⟩
  · rw [enumD_get] at e
    exact Option.map_eq_none_iff.mp e
def iEnumM (m : LE → M D) : LE → M (List D) := fun env => m env >>= fun d => listOf d >>= fun ds => pure (enumD 0 ds)
theorem si_enum {elts : List Expr} {kk : Nat} {tpos : Pos} {a : Expr} {m : LE → M D} {p pos : Pos} (hm : X.mg "enumerate" = none) (h : SE X C W a m) (hK : X.K = C.K := by rfl) (hg : Gl X "enumerate" := by rfl) (hs : starEach [a] X.env = [(false, eval a X.env)] := by rfl) :
    SI X C W (.Tuple elts kk tpos) (.Call (.Name "enumerate" p) [a] [] pos) (iEnumM m) := by
  obtain ⟨t, p, s⟩ := h.out
  refine ⟨_, pi_enum hg hm (pa_cons p pa_nil hs) hs, fun env σ c R hR hF => ?_⟩
  refine s env σ c _ hR (Fn.bind hF fun d c1 e1 w1 hF1 v dn => ?_)
  rw [hK]
  cases d <;> first | exact False.elim hF1 | skip
  · obtain ⟨a, vs, rfl, ha, l⟩ := dn
    exact ⟨a, vs, rfl, SqL.of (w1.ext _ _ ha), Fn.ok w1 hF1 _ (walks_enum (SqL.of ha) l)⟩
  · obtain ⟨a, rfl, ha⟩ := dn
    exact ⟨a, _, rfl, w1.ext.sql ha, Fn.ok w1 hF1 _ (walks_enum ha (denInts _))⟩

/-! ### for -/
def forM' (g : GM) (b : SM) : List D → SM
  | [], env, s => some (.nx env, s)
  | d :: ds, env, s => match g d env with
    | none => none
    | some env1 => match b env1 s with
      | some (.nx e, s') => forM' g b ds e s'
      | some (.ct e, s') => forM' g b ds e s'
      | some (.bk e, s') => some (.nx e, s')
      | r => r
def sFor (mi : LE → M (List D)) (g : GM) (b : SM) : SM := sE mi fun ds => forM' g b ds
theorem s1_for {iter : Expr} {body : List Stmt} {mi : LE → M (List D)} {g : GM} {is : List Nat} {b : SM} {pos : Pos} (hi : SI X C W tg iter mi) (hg : SG X C tg g is) (hb : SS X C c0 W body b) (hp : PassesOwn (model X.prog X.w) X.A X.env X.xe) (hc : X.calm = true := by rfl)
    (hs : ∀ x, foldedSetIterable iter X.env x = pure x := by intro _; rfl) : SS1 X C c0 W (.For tg iter body [] pos) (sFor mi g b) := by
  obtain ⟨wi, pi, si⟩ := hi.out
  obtain ⟨tg', pg, sg⟩ := hg.out
  obtain ⟨tb, pb, sb⟩ := hb.out
  refine ⟨_, ps_for hp hc pi pg pb hs, fun env σ c E hR hF => ?_⟩
  refine si env σ c _ hR.rl (hF.fn hR fun ds c1 e1 w1 hR1 hF1 J wk => ?_)
  let Inv : Nat → Nat → L2.St → Hp → Prop := fun i m σ H => ∃ env c, c.H = H ∧ RlS C c0 env σ c ∧ Since c1 c ∧ m = ds.length - i ∧ i ≤ ds.length ∧ FS C c0 c W E (forM' g b (ds.drop i) env c.s)
  refine ⟨Inv, ⟨ds.length, env, c1, rfl, hR1, Since.refl _, rfl, Nat.zero_le _, hF1⟩, ?_⟩
  rintro i m σ2 H2 ⟨env2, c2, rfl, hR2, g2, rfl, hi, hF2⟩
  obtain ⟨k1, k2⟩ := wk c2 g2.g g2.r hR2.rl.wf g2.lk i
  cases e : ds[i]? with
  | none =>
    refine .inl ⟨k2 e, ?_⟩
    rw [List.drop_eq_nil_of_le (List.getElem?_eq_none_iff.mp e)] at hF2
    exact hF2 σ2 c2 rfl hR2 (Since.refl _)
  | some d =>
    obtain ⟨hlt, hd⟩ := List.getElem?_eq_some_iff.mp e
    have ed : ds.drop i = d :: ds.drop (i + 1) := by rw [List.drop_eq_getElem_cons hlt, hd]
    rw [ed] at hF2
    obtain ⟨go, yld⟩ := k1 d e
    refine .inr ⟨go, fun σ' H' => Inv (i + 1) (ds.length - (i + 1)) σ' H', fun σ' H' z => ⟨_, by omega, z⟩, fun x H3 y => ?_⟩
    obtain ⟨c3, rfl, es3, x3, w3, dn3⟩ := yld x H3 y
    have hR3 := hR2.step x3 w3
    have hF3 : FS C c0 c2 W E (match g d env2 with
      | none => none
      | some env1 => match b env1 c2.s with
        | some (.nx e, s') => forM' g b (ds.drop (i + 1)) e s'
        | some (.ct e, s') => forM' g b (ds.drop (i + 1)) e s'
        | some (.bk e, s') => some (.nx e, s')
        | r => r) := hF2
    cases eg : g d env2 with
    | none => rw [eg] at hF3; exact False.elim hF3
    | some env3 =>
      rw [eg] at hF3
      refine sg env2 σ2 c3 d x env3 _ hR3.rl dn3 eg fun σ3 R3 S3 => ?_
      have hR4 : RlS C c0 env3 σ3 c3 := S3.rls hR3 R3
      refine sb env3 σ3 c3 _ hR4 ?_
      rw [es3]
      have hF4 : FS C c0 c3 W E (match b env3 c2.s with
        | some (.nx e, s') => forM' g b (ds.drop (i + 1)) e s'
        | some (.ct e, s') => forM' g b (ds.drop (i + 1)) e s'
        | some (.bk e, s') => some (.nx e, s')
        | r => r) := FS.mono x3.since hF3
      have s13 : Since c1 c3 := g2.trans x3.since
      have again : ∀ (env' : LE) (s' : S), FS C c0 c3 W E (forM' g b (ds.drop (i + 1)) env' s') → ∀ σ' c', c'.s = s' → RlS C c0 env' σ' c' → Since c3 c' → Inv (i + 1) (ds.length - (i + 1)) σ' c'.H :=
        fun env' s' h σ' c' q R y => ⟨env', c', rfl, R, s13.trans y, rfl, hlt, by rw [q]; exact FS.mono y h⟩
      cases er : b env3 c2.s with
      | none => rw [er] at hF4; exact hF4
      | some p =>
        obtain ⟨f, s'⟩ := p
        rw [er] at hF4
        cases f with
        | nx env' => exact fun σ' c' q R y => again env' s' hF4 σ' c' q R y
        | ct env' => exact fun σ' c' q R y => again env' s' hF4 σ' c' q R y
        | bk env' => exact hF4
        | rt d => exact hF4
        | xc k fs env' => cases k <;> exact hF4

/-! ### list comprehensions -/
/-- nothing is let out -/
def noX {α : Type} (m : M α) : M α := fun s => match m s with
  | .ok a s' => .ok a s'
  | _ => .stuck
abbrev WN : WX := fun _ _ _ _ => False
theorem Fn.noX {c : Cf} {α β : Type} {m : M α} {f : α → M β} {K : β → Cf → Prop} {E E' : XK} {K1 : α → Cf → Prop} (h : Fn C c ((noX m >>= f) c.s) K E)
    (k : ∀ a c', Ext c c' → WF C c' → Fn C c (f a c'.s) K E → K1 a c') : Fn C c (m c.s) K1 E' := by
  have h' : Fn C c (R.bind (match m c.s with | .ok a s' => R.ok a s' | _ => R.stuck) f) K E := h
  cases e : m c.s with
  | ok a s' =>
    rw [e] at h'
    intro c' q x w
    exact k a c' x w (by rw [q]; exact h')
  | exc x fs s' => rw [e] at h'; exact False.elim h'
  | stuck => rw [e] at h'; exact False.elim h'
def wipeE (env : LE) : List Nat → LE
  | [] => env
  | v :: vs => (wipeE env vs).set v none
theorem Rl.wipe {env : LE} {σ : L2.St} {c : Cf} (h : Rl C env σ c) : ∀ vs, Rl C (wipeE env vs) (L2.wipe σ vs) c
  | [] => h
  | v :: vs => (Rl.wipe h vs).wipe1 v
theorem wipe_get {σ : L2.St} {j : Nat} : ∀ vs, j ∉ vs → (L2.wipe σ vs)[j]? = σ[j]?
  | [], _ => rfl
  | v :: vs, h => by
    unfold L2.wipe
    rw [List.getElem?_set_ne (fun z => h (by simp [z]))]
    exact wipe_get vs fun z => h (List.mem_cons_of_mem _ z)
theorem wipe_in {σ : L2.St} {j : Nat} : ∀ vs, j ∈ vs → j < σ.length → (L2.wipe σ vs)[j]? = some none
  | v :: vs, h, hl => by
    unfold L2.wipe
    by_cases hj : v = j
    · subst hj
      rw [List.getElem?_set_self (by rw [L2.wipe_length]; exact hl)]
    · rw [List.getElem?_set_ne hj]
      rcases List.mem_cons.mp h with h | h
      · exact absurd h.symm hj
      · exact wipe_in vs h hl
theorem wipe_same {σ σ' : L2.St} {vs : List Nat} (hl : σ'.length = σ.length) (h : ∀ j, j ∉ vs → σ'[j]? = σ[j]?) : L2.wipe σ' vs = L2.wipe σ vs := by
  apply List.ext_getElem?
  intro j
  by_cases hj : j ∈ vs
  · by_cases hj2 : j < σ.length
    · rw [wipe_in vs hj hj2, wipe_in vs hj (by rw [hl]; exact hj2)]
    · rw [List.getElem?_eq_none (by rw [L2.wipe_length, hl]; omega), List.getElem?_eq_none (by rw [L2.wipe_length]; omega)]
  · rw [wipe_get vs hj, wipe_get vs hj, h j hj]
def lcM (g : GM) (t : LE → M Bool) (e : LE → M D) (env : LE) : List D → List D → M (List D)
  | [], acc => pure acc
  | d :: ds, acc => match g d env with
    | none => mStuck
    | some env1 => t env1 >>= fun b => if b = true then e env1 >>= fun y => guardM (szOk acc.length) >>= fun _ => lcM g t e env ds (acc ++ [y]) else lcM g t e env ds acc
def tTrue : LE → M Bool := fun _ => pure true
def nLc (mi : LE → M (List D)) (g : GM) (t : LE → M Bool) (e : LE → M D) (own : List Nat) : LE → M O := fun env => mi env >>= fun ds => noX (lcM g t e (wipeE env own) ds []) >>= fun r => pure (.lst r)
/-- the tests of a clause -/
structure STs (X : Cx) (C : Ct) (W : WX) (ifs : List Expr) (m : LE → M Bool) : Prop where
  out : ∃ t, PTs X ifs t ∧ SimT C W t m
theorem sts_nil : STs X C W [] tTrue := ⟨_, pts_nil, fun env σ c Q hR hF => Fn.ok hR.wf hF⟩
theorem sts_one {c : Expr} {m : LE → M Bool} (h : STe X C W c m) : STs X C W [c] m := by
  obtain ⟨t, p, s⟩ := h.out
  exact ⟨_, pts_one p, s⟩
end
end DL
set_option Elab.async false
set_option linter.all false
set_option maxRecDepth 100000
set_option maxHeartbeats 2000000
/-! # List comprehensions; built-ins -/
namespace DL
open PySem L2
open PyProof.Rows hiding St
section
variable {X : Cx} {C : Ct} {c0 : Cf} {W : WX} {tg : Expr}
/-- a list in the making, at p, behind b -/
structure Mkg (C : Ct) (b c : Cf) (p : Addr) (acc : List D) : Prop where
  ext : Ext b c
  wf : WF C c
  fresh : b.H p = none
  g : c.G p = none
  r : p ∉ c.ρ
  at' : ∃ vs, c.H p = some (.lst vs) ∧ DenL C c.G c.ρ acc vs
theorem Mkg.start {b : Cf} {p : Addr} (w : WF C b) (hp : b.H p = none) : Mkg C b ⟨upd b.H p (.lst []), b.G, b.ρ, b.s⟩ p [] := by
  obtain ⟨w2, e2⟩ := lay_new (o := .lst []) w hp
  exact ⟨e2, w2, hp, w.gfree hp, w.rfree hp, [], upd_same, .nil⟩
theorem Mkg.step {b c c' : Cf} {p : Addr} {acc : List D} (h : Mkg C b c p acc) (e : Ext c c') (w : WF C c') : Mkg C b c' p acc := by
  obtain ⟨vs, h1, h2⟩ := h.at'
  refine ⟨h.ext.trans e, w, h.fresh, e.fr p h.g (by rw [h1]; simp), ?_, vs, e.kp p _ h1 h.r, h2.mono e.g e.pre⟩
  obtain ⟨m, em, fm⟩ := e.pr
  rw [em]
  intro hm
  rcases List.mem_append.mp hm with hm | hm
  · exact h.r hm
  · have := fm p hm
    rw [h1] at this
    cases this
theorem Mkg.push {b c : Cf} {p : Addr} {acc : List D} {d : D} {v : V} {vs : List V} (h : Mkg C b c p acc) (hv : c.H p = some (.lst vs)) (dn : Den C c.G c.ρ d v) : Mkg C b ⟨upd c.H p (.lst (vs ++ [v])), c.G, c.ρ, c.s⟩ p (acc ++ [d]) := by
  obtain ⟨vs', h1, h2⟩ := h.at'
  rw [hv] at h1
  cases h1
  have w := h.wf
  refine ⟨⟨h.ext.g, h.ext.fr, fun x u e nx => ?_, fun x dd => ?_, h.ext.pr, fun x z u e => by have ne : x ≠ p := (fun y => by subst y; rw [h.fresh] at e; cases e); show upd c.H p _ x = _; rw [upd_ne ne]; exact h.ext.lk x z u e⟩, ⟨fun x u e => ?_, w.len, w.nd, fun x hx => ?_, fun m u e => ?_⟩, h.fresh, h.g, h.r, _, upd_same, h2.append (.one dn)⟩
  · have ne : x ≠ p := fun z => by subst z; rw [h.fresh] at e; cases e
    show upd c.H p _ x = some u
    rw [upd_ne ne]
    exact h.ext.kp x u e nx
  · have ne : x ≠ p := fun z => by subst z; exact dd h.fresh
    show upd c.H p _ x ≠ none
    rw [upd_ne ne]
    exact h.ext.dom x dd
  · have ne : x ≠ p := fun z => by subst z; have e' : c.G x = some u := e; rw [h.g] at e'; cases e'
    show upd c.H p _ x = some u
    rw [upd_ne ne]
    exact w.ext x u e
  · have ne : x ≠ p := fun z => by subst z; exact h.r hx
    show upd c.H p _ x ≠ none
    rw [upd_ne ne]
    exact w.dom x hx
  · obtain ⟨x, hx, r1, r2, r3, r4⟩ := w.cel m u e
    have ne : x ≠ p := fun z => by subst z; exact h.r (List.mem_of_getElem? r1)
    exact ⟨x, hx, r1, r2, by show upd c.H p _ x = _; rw [upd_ne ne]; exact r3, r4⟩
theorem sim_lc {wi : TI} {g : TG} {tt : TT} {te : TE} {mi : LE → M (List D)} {mg : GM} {is own : List Nat} {mt : LE → M Bool} {me : LE → M D} (si : SimI C W wi mi) (sg : SimG C g mg is) (st : SimT C WN tt mt) (se : SimE C WN te me) (sub : ∀ i ∈ is, i ∈ own) :
    SimN C W (tLc wi g tt te own) (nLc mi mg mt me own) := by
  intro env σ c Q hR hF
  refine si env σ c _ hR (Fn.bind0 hF fun ds c1 e1 w1 hF1 J wk p hp => ?_)
  have R1 := (hR.ext e1 w1).wipe own
  -- all turns, without an exception
  have hF2 : Fn C c1 (lcM mg mt me (wipeE env own) ds [] c1.s) (fun r c' => ∀ p', Mkg C c1 c' p' r → Q (.ref p') c'.H) (fun _ _ _ => False) := by
    refine Fn.noX (Fn.mono e1 hF1) fun r c' e' w' hF3 p' mk => ?_
    have e2 := e1.trans e'
    have hk := hF3 c' rfl e' w'
    obtain ⟨vs, h1, h2⟩ := mk.at'
    exact hk p' ⟨e1.free mk.fresh, mk.g, mk.r, _, h1, vs, rfl, h2⟩
  let Inv : Nat → Nat → Hp → Prop := fun i m H => ∃ c2 acc, c2.H = H ∧ Mkg C c1 c2 p acc ∧ m = ds.length - i ∧ i ≤ ds.length ∧ Fn C c1 (lcM mg mt me (wipeE env own) (ds.drop i) acc c2.s) (fun r c' => ∀ p', Mkg C c1 c' p' r → Q (.ref p') c'.H) (fun _ _ _ => False)
  refine ⟨Inv, ⟨ds.length, _, [], rfl, .start w1 hp, rfl, Nat.zero_le _, hF2⟩, ?_⟩
  rintro i m H2 ⟨c2, acc, rfl, mk, rfl, hi, hFi⟩
  obtain ⟨k1, k2⟩ := wk c2 mk.ext.g mk.ext.pre mk.wf mk.ext.lk i
  cases e : ds[i]? with
  | none =>
    refine .inl ⟨k2 e, ?_⟩
    rw [List.drop_eq_nil_of_le (List.getElem?_eq_none_iff.mp e)] at hFi
    exact hFi c2 rfl mk.ext mk.wf p mk
  | some d =>
    obtain ⟨hlt, hd⟩ := List.getElem?_eq_some_iff.mp e
    have ed : ds.drop i = d :: ds.drop (i + 1) := by rw [List.drop_eq_getElem_cons hlt, hd]
    rw [ed] at hFi
    obtain ⟨go, yld⟩ := k1 d e
    refine .inr ⟨go, fun H' => Inv (i + 1) (ds.length - (i + 1)) H', fun H' z => ⟨_, by omega, z⟩, fun x H3 y => ?_⟩
    obtain ⟨c3, rfl, es3, x3, w3, dn3⟩ := yld x H3 y
    have mk3 := mk.step x3 w3
    have R3 := R1.ext (mk.ext.trans x3) w3
    unfold lcM at hFi
    cases eg : mg d (wipeE env own) with
    | none => rw [eg] at hFi; exact False.elim hFi
    | some env3 =>
      rw [eg] at hFi
      refine sg _ _ c3 d x env3 _ R3 dn3 eg fun σ3 R4 S4 => ⟨?_, ?_⟩
      · have hw : L2.wipe (L2.wipe σ own) own = L2.wipe σ own := wipe_same (L2.wipe_length σ own) fun j hj => wipe_get own hj
        rw [← hw]
        exact wipe_same (S4.len) fun j hj => S4.st j fun z => hj (sub j z)
      · have hFt : Fn C c3 ((mt env3 >>= fun b => if b = true then me env3 >>= fun y => guardM (szOk acc.length) >>= fun _ => lcM mg mt me (wipeE env own) (ds.drop (i + 1)) (acc ++ [y]) else lcM mg mt me (wipeE env own) (ds.drop (i + 1)) acc) c3.s)
            (fun r c' => ∀ p', Mkg C c1 c' p' r → Q (.ref p') c'.H) (fun _ _ _ => False) := by
          rw [es3]
          exact Fn.mono (mk.ext.trans x3) hFi
        -- the rest is told from c1 on
        have hFt0 : Fn C c1 ((mt env3 >>= fun b => if b = true then me env3 >>= fun y => guardM (szOk acc.length) >>= fun _ => lcM mg mt me (wipeE env own) (ds.drop (i + 1)) (acc ++ [y]) else lcM mg mt me (wipeE env own) (ds.drop (i + 1)) acc) c3.s)
            (fun r c' => ∀ p', Mkg C c1 c' p' r → Q (.ref p') c'.H) (fun _ _ _ => False) := by
          rw [es3]
          exact hFi
        have b3 : Ext c1 c3 := mk.ext.trans x3
        refine st env3 σ3 c3 _ R4 ?_
        cases et : mt env3 c3.s with
        | stuck =>
          have := hFt0
          rw [bind_def, et] at this
          exact this
        | exc k fs s' =>
          have q := hFt
          rw [bind_def, et] at q
          exact Fn.excK q
        | ok b s4 =>
          intro c4 q4 x4 w4
          have hF4 : Fn C c1 ((if b = true then me env3 >>= fun y => guardM (szOk acc.length) >>= fun _ => lcM mg mt me (wipeE env own) (ds.drop (i + 1)) (acc ++ [y]) else lcM mg mt me (wipeE env own) (ds.drop (i + 1)) acc) c4.s)
              (fun r c' => ∀ p', Mkg C c1 c' p' r → Q (.ref p') c'.H) (fun _ _ _ => False) := by
            have := hFt0
            rw [bind_def, et] at this
            rw [q4]
            exact this
          have mk4 := mk3.step x4 w4
          cases b with
          | false => exact iteF ⟨c4, acc, rfl, mk4, rfl, hlt, hF4⟩
          | true =>
            refine iteT ?_
            refine se env3 σ3 c4 _ (R4.ext x4 w4) ?_
            have hF5 : Fn C c1 ((me env3 >>= fun y => guardM (szOk acc.length) >>= fun _ => lcM mg mt me (wipeE env own) (ds.drop (i + 1)) (acc ++ [y])) c4.s)
              (fun r c' => ∀ p', Mkg C c1 c' p' r → Q (.ref p') c'.H) (fun _ _ _ => False) := hF4
            cases ee : me env3 c4.s with
            | stuck =>
              rw [bind_def, ee] at hF5
              exact hF5
            | exc k fs s' =>
              rw [bind_def, ee] at hF5
              exact Fn.mono (b3.trans x4) (Fn.excK hF5)
            | ok y s5 =>
              intro c5 q5 x5 w5 v dv
              rw [bind_def, ee] at hF5
              have hF6 : Fn C c1 ((guardM (szOk acc.length) >>= fun _ => lcM mg mt me (wipeE env own) (ds.drop (i + 1)) (acc ++ [y])) s5)
                (fun r c' => ∀ p', Mkg C c1 c' p' r → Q (.ref p') c'.H) (fun _ _ _ => False) := hF5
              have mk5 := mk4.step x5 w5
              obtain ⟨vs, h1, h2⟩ := mk5.at'
              cases hz : szOk acc.length with
              | false => rw [hz] at hF6; exact False.elim hF6
              | true =>
                rw [hz] at hF6
                refine ⟨vs, h1, by rw [h2.length]; exact szOk_lt hz, ⟨_, _, rfl, mk5.push h1 dv, rfl, hlt, ?_⟩⟩
                show Fn C c1 (lcM mg mt me (wipeE env own) (ds.drop (i + 1)) (acc ++ [y]) c5.s) _ _
                rw [q5]
                exact hF6
theorem sn_lc {elt iter : Expr} {ifs : List Expr} {scope : Scope} {own : List (Str × Nat)} {pos : Pos} {mi : LE → M (List D)} {mg : GM} {is : List Nat} {mt : LE → M Bool} {me : LE → M D} (hi : SI X C W tg iter mi) (hN : X.N.Nodup) (ok : BlkOk X.N X.env.scope scope own)
    (hg : ∃ g, (∀ (s : Shared) (H : Hp) (c : Addr) (cl : List (Str × Addr)) (fp : List Addr), PG (X.blk s H scope (compEnvC scope cl c X.env) fp) tg g) ∧ SimG C g mg is)
    (ht : ∃ t, (∀ (s : Shared) (H : Hp) (c : Addr) (cl : List (Str × Addr)) (fp : List Addr), PTs (X.blk s H scope (compEnvC scope cl c X.env) fp) ifs t) ∧ SimT C WN t mt)
    (he : ∃ t, (∀ (s : Shared) (H : Hp) (c : Addr) (cl : List (Str × Addr)) (fp : List Addr), PE (X.blk s H scope (compEnvC scope cl c X.env) fp) elt t) ∧ SimE C WN t me)
    (sub : (is.all fun i => decide (i ∈ own.map (·.2))) = true) (hc : X.calm = true := by rfl) (hs : ∀ x, foldedSetIterable iter X.env x = pure x := by intro _; rfl) :
    SN X C W (.ListComp elt [⟨tg, iter, ifs, 0⟩] scope pos) (nLc mi mg mt me (own.map (·.2))) := by
  obtain ⟨wi, pi, si⟩ := hi.out
  obtain ⟨g, pg, sg⟩ := hg
  obtain ⟨tt, pt, st⟩ := ht
  obtain ⟨te, pe, se⟩ := he
  exact ⟨_, pe_lc hc hN pi ok pg pt pe hs, sim_lc si sg st se fun i hi => of_decide_eq_true (List.all_eq_true.mp sub i hi)⟩
end
end DL
set_option Elab.async false
set_option linter.all false
set_option maxRecDepth 100000
set_option maxHeartbeats 2000000
/-! # Readings that hang on the mirror alone; built-ins by name -/
namespace DL
open PySem L2
open PyProof.Rows hiding St
section
variable {X : Cx} {C : Ct} {c0 : Cf} {W : WX} {tg : Expr}
def tE (C : Ct) (W : WX) (m : LE → M D) : TE := fun σ H Q => ∃ env c, c.H = H ∧ Rl C env σ c ∧ Fn C c (m env c.s) (KD C Q) (fun a b H => W a b σ H)
theorem sim_tE {m : LE → M D} : SimE C W (tE C W m) m := fun env σ c Q hR hF => ⟨env, c, rfl, hR, hF⟩
theorem SE.canon {e : Expr} {m : LE → M D} (h : SE X C W e m) : PE X e (tE C W m) := by
  obtain ⟨t, p, s⟩ := h.out
  refine ⟨fun pins st σ H Q I h => ?_⟩
  obtain ⟨env, c, rfl, hR, hF⟩ := h
  exact p.run pins st σ c.H Q I (s env σ c Q hR hF)
def tT (C : Ct) (W : WX) (m : LE → M Bool) : TT := fun σ H Q => ∃ env c, c.H = H ∧ Rl C env σ c ∧ Fn C c (m env c.s) (KB Q) (fun a b H => W a b σ H)
theorem sim_tT {m : LE → M Bool} : SimT C W (tT C W m) m := fun env σ c Q hR hF => ⟨env, c, rfl, hR, hF⟩
theorem STs.canon {e : List Expr} {m : LE → M Bool} (h : STs X C W e m) : PTs X e (tT C W m) := by
  obtain ⟨t, p, s⟩ := h.out
  refine ⟨fun pins st σ H Q I h => ?_⟩
  obtain ⟨env, c, rfl, hR, hF⟩ := h
  exact p.run pins st σ c.H Q I (s env σ c Q hR hF)
def tG (C : Ct) (mg : GM) (is : List Nat) : TG := fun v σ H Q => ∃ env c d env', c.H = H ∧ Rl C env σ c ∧ Den C c.G c.ρ d v ∧ mg d env = some env' ∧ ∀ σ', Rl C env' σ' c → Still is env env' σ σ' → Q σ' c.H
theorem sim_tG {mg : GM} {is : List Nat} : SimG C (tG C mg is) mg is := fun env σ c d v env' Q hR dn e k => ⟨env, c, d, env', rfl, hR, dn, e, k⟩
theorem SG.canon {e : Expr} {mg : GM} {is : List Nat} (h : SG X C e mg is) : PG X e (tG C mg is) := by
  obtain ⟨t, p, s⟩ := h.out
  refine ⟨fun pins st σ H v u Q I r h => ?_⟩
  obtain ⟨env, c, d, env', rfl, hR, dn, e, k⟩ := h
  exact p.run pins st σ c.H v u Q I r (s env σ c d v env' Q hR dn e k)
/-- a list comprehension of one clause -/
theorem sn_comp {elt iter : Expr} {ifs : List Expr} {scope : Scope} (own : List (Str × Nat)) {pos : Pos} {mi : LE → M (List D)} {mg : GM} {is : List Nat} {mt : LE → M Bool} {me : LE → M D} (hi : SI X C W tg iter mi) (hN : X.N.Nodup) (ok : blkC X.N X.env.scope scope own = true)
    (hg : ∀ (s : Shared) (H : Hp) (c : Addr) (cl : List (Str × Addr)) (fp : List Addr), SG (X.blk s H scope (compEnvC scope cl c X.env) fp) C tg mg is)
    (ht : ∀ (s : Shared) (H : Hp) (c : Addr) (cl : List (Str × Addr)) (fp : List Addr), STs (X.blk s H scope (compEnvC scope cl c X.env) fp) C WN ifs mt)
    (he : ∀ (s : Shared) (H : Hp) (c : Addr) (cl : List (Str × Addr)) (fp : List Addr), SE (X.blk s H scope (compEnvC scope cl c X.env) fp) C WN elt me)
    (sub : (is.all fun i => decide (i ∈ own.map (·.2))) = true := by rfl) (hc : X.calm = true := by rfl) (hs : ∀ x, foldedSetIterable iter X.env x = pure x := by intro _; rfl) :
    SN X C W (.ListComp elt [⟨tg, iter, ifs, 0⟩] scope pos) (nLc mi mg mt me (own.map (·.2))) :=
  sn_lc hi hN (blkOk_by ok) ⟨_, fun s H c cl fp => (hg s H c cl fp).canon, sim_tG⟩ ⟨_, fun s H c cl fp => (ht s H c cl fp).canon, sim_tT⟩ ⟨_, fun s H c cl fp => (he s H c cl fp).canon, sim_tE⟩ sub hc hs
/-- name = [..] on one line: a slot of its own -/
theorem s1_comp (i : Nat) {y : Str} {py : Pos} {elt iter : Expr} {ifs : List Expr} {scope : Scope} (own : List (Str × Nat)) {pos spos : Pos} {mi : LE → M (List D)} {mg : GM} {is : List Nat} {mt : LE → M Bool} {me : LE → M D} (hi : SI X C W tg iter mi) (hN : X.N.Nodup) (ok : blkC X.N X.env.scope scope own = true)
    (hg : ∀ (s : Shared) (H : Hp) (c : Addr) (cl : List (Str × Addr)) (fp : List Addr), SG (X.blk s H scope (compEnvC scope cl c X.env) fp) C tg mg is)
    (ht : ∀ (s : Shared) (H : Hp) (c : Addr) (cl : List (Str × Addr)) (fp : List Addr), STs (X.blk s H scope (compEnvC scope cl c X.env) fp) C WN ifs mt)
    (he : ∀ (s : Shared) (H : Hp) (c : Addr) (cl : List (Str × Addr)) (fp : List Addr), SE (X.blk s H scope (compEnvC scope cl c X.env) fp) C WN elt me)
    (hy : X.N[i]? = some y := by rfl) (hyl : X.env.scope.names.lookup y = some .local := by rfl)
    (hsw : swapsWith (.ListComp elt [⟨tg, iter, ifs, 0⟩] scope pos) (some (.Name y py)) spos.line X.env = pure true := by exact sw_true rfl rfl rfl (by decide +kernel))
    (sub : (is.all fun i => decide (i ∈ own.map (·.2))) = true := by rfl) (hc : X.calm = true := by rfl) (hs : ∀ x, foldedSetIterable iter X.env x = pure x := by intro _; rfl) :
    SS1 X C c0 W (.Assign [.Name y py] (.ListComp elt [⟨tg, iter, ifs, 0⟩] scope pos) spos) (sOwn i (nLc mi mg mt me (own.map (·.2)))) := by
  obtain ⟨wi, pi, si⟩ := hi.out
  refine ⟨_, ps_setLc hc hN hy hyl hsw pi (blkOk_by ok) (fun s H c cl fp => (hg s H c cl fp).canon) (fun s H c cl fp => (ht s H c cl fp).canon) (fun s H c cl fp => (he s H c cl fp).canon) hs, fun env σ c E hR hF => ?_⟩
  have sn := sim_lc (W := W) (is := is) (own := own.map (·.2)) (mg := mg) (mt := mt) (me := me) si sim_tG sim_tT sim_tE (fun i hi => of_decide_eq_true (List.all_eq_true.mp sub i hi))
  exact sn env σ c (fun x H1 => gName i x σ H1 E.nx) hR.rl (hF.fn hR fun d c' x w hR' hF' p n => hF' _ c' rfl (hR.own x w n) (Since.refl _))

/-! ### calls of built-ins -/
def SimC (C : Ct) (r : List V → Hp → VK → Prop) (f : List D → M D) : Prop :=
  ∀ c ds vs Q E, WF C c → DenL C c.G c.ρ ds vs → Fn C c (f ds c.s) (KD C Q) E → r vs c.H Q
def SimCN (C : Ct) (r : List V → Hp → VK → Prop) (f : List D → M O) : Prop :=
  ∀ c ds vs Q E, WF C c → DenL C c.G c.ρ ds vs → Fn C c (f ds c.s) (KN C c Q) E → r vs c.H Q
def eB {α : Type} (f : List D → M α) (ma : LE → M (List D)) : LE → M α := fun env => ma env >>= f
theorem sim_cb {r : List V → Hp → VK → Prop} {f : List D → M D} {t : TA} {ma : LE → M (List D)} (hf : SimC C r f) (sa : SimA C W t ma) : SimE C W (tCB r t) (eB f ma) := by
  intro env σ c Q hR hF
  exact sa env σ c _ hR (Fn.bind hF fun ds c1 e1 w1 hF1 vs dn => hf c1 ds vs Q _ w1 dn hF1)
theorem sim_cbN {r : List V → Hp → VK → Prop} {f : List D → M O} {t : TA} {ma : LE → M (List D)} (hf : SimCN C r f) (sa : SimA C W t ma) : SimN C W (tCB r t) (eB f ma) := by
  intro env σ c Q hR hF
  refine sa env σ c _ hR (Fn.bind hF fun ds c1 e1 w1 hF1 vs dn => hf c1 ds vs Q _ w1 dn (hF1.imp fun o c' x w k p n => k p ⟨e1.free n.fresh, n.g, n.r, n.at'⟩))
theorem se_callB {r : List V → Hp → VK → Prop} {f : List D → M D} {id : String} {x : Str} {p pos : Pos} {e : Expr} {es : List Expr} {ma : LE → M (List D)} (hc : CallR X (.builtin id) r) (hf : SimC C r f) (hm : X.mg x = none) (hv : bootBuiltins x = some (.builtin id)) (ha : SA X C W (e :: es) ma)
    (hg : Gl X x := by rfl) (hn : x ≠ "__name__" := by decide) (hdb : (x == ("__debug__" : Str)) = false := by decide) (he : starEach (e :: es) X.env = (false, eval e X.env) :: starEach es X.env := by rfl) (hpl : (backTo pos (starEach es X.env)).any (·.1) = false := by rfl) :
    SE X C W (.Call (.Name x p) (e :: es) [] pos) (eB f ma) := by
  obtain ⟨t, pa, sa⟩ := ha.out
  exact ⟨_, pe_callB hc hg hm hv pa hn hdb he hpl, sim_cb hf sa⟩
theorem sn_callB {r : List V → Hp → VK → Prop} {f : List D → M O} {id : String} {x : Str} {p pos : Pos} {e : Expr} {es : List Expr} {ma : LE → M (List D)} (hc : CallR X (.builtin id) r) (hf : SimCN C r f) (hm : X.mg x = none) (hv : bootBuiltins x = some (.builtin id)) (ha : SA X C W (e :: es) ma)
    (hg : Gl X x := by rfl) (hn : x ≠ "__name__" := by decide) (hdb : (x == ("__debug__" : Str)) = false := by decide) (he : starEach (e :: es) X.env = (false, eval e X.env) :: starEach es X.env := by rfl) (hpl : (backTo pos (starEach es X.env)).any (·.1) = false := by rfl) :
    SN X C W (.Call (.Name x p) (e :: es) [] pos) (eB f ma) := by
  obtain ⟨t, pa, sa⟩ := ha.out
  exact ⟨_, pe_callB hc hg hm hv pa hn hdb he hpl, sim_cbN hf sa⟩
theorem se_callT {r : List V → Hp → VK → Prop} {f : List D → M D} {T : String} {x : Str} {p pos : Pos} {e : Expr} {es : List Expr} {ma : LE → M (List D)} (hc : CallR X (.type T) r) (hf : SimC C r f) (hm : X.mg x = none) (hv : bootBuiltins x = some (.type T)) (ha : SA X C W (e :: es) ma)
    (hg : Gl X x := by rfl) (hn : x ≠ "__name__" := by decide) (hdb : (x == ("__debug__" : Str)) = false := by decide) (he : starEach (e :: es) X.env = (false, eval e X.env) :: starEach es X.env := by rfl) (hpl : (backTo pos (starEach es X.env)).any (·.1) = false := by rfl) :
    SE X C W (.Call (.Name x p) (e :: es) [] pos) (eB f ma) := by
  obtain ⟨t, pa, sa⟩ := ha.out
  exact ⟨_, pe_callTy hc hg hm hv pa hn hdb he hpl, sim_cb hf sa⟩
theorem sn_callT {r : List V → Hp → VK → Prop} {f : List D → M O} {T : String} {x : Str} {p pos : Pos} {e : Expr} {es : List Expr} {ma : LE → M (List D)} (hc : CallR X (.type T) r) (hf : SimCN C r f) (hm : X.mg x = none) (hv : bootBuiltins x = some (.type T)) (ha : SA X C W (e :: es) ma)
    (hg : Gl X x := by rfl) (hn : x ≠ "__name__" := by decide) (hdb : (x == ("__debug__" : Str)) = false := by decide) (he : starEach (e :: es) X.env = (false, eval e X.env) :: starEach es X.env := by rfl) (hpl : (backTo pos (starEach es X.env)).any (·.1) = false := by rfl) :
    SN X C W (.Call (.Name x p) (e :: es) [] pos) (eB f ma) := by
  obtain ⟨t, pa, sa⟩ := ha.out
  exact ⟨_, pe_callTy hc hg hm hv pa hn hdb he hpl, sim_cbN hf sa⟩
/-- one argument, two -/
theorem den1 {G : Hp} {ρ : List Addr} {d : D} {vs : List V} (h : DenL C G ρ [d] vs) : ∃ v, vs = [v] ∧ Den C G ρ d v := by
  simp only [DenL] at h
  obtain ⟨v, r, rfl, h1, rfl⟩ := h
  exact ⟨v, rfl, h1⟩
theorem den2 {G : Hp} {ρ : List Addr} {d e : D} {vs : List V} (h : DenL C G ρ [d, e] vs) : ∃ v w, vs = [v, w] ∧ Den C G ρ d v ∧ Den C G ρ e w := by
  simp only [DenL] at h
  obtain ⟨v, r, rfl, h1, w, r', rfl, h2, rfl⟩ := h
  exact ⟨v, w, rfl, h1, h2⟩
/-- a mirror of one argument -/
def on1 {α : Type} (f : D → M α) : List D → M α
  | [d] => f d
  | _ => mStuck
def on2 {α : Type} (f : D → D → M α) : List D → M α
  | [d, e] => f d e
  | _ => mStuck
theorem simC1 {r : List V → Hp → VK → Prop} {f : D → M D} (h : ∀ c d v Q E, WF C c → Den C c.G c.ρ d v → Fn C c (f d c.s) (KD C Q) E → r [v] c.H Q) : SimC C r (on1 f) := by
  intro c ds vs Q E w dn hF
  match ds, dn, hF with
  | [], _, hF => exact False.elim hF
  | [d], dn, hF =>
    obtain ⟨v, rfl, h1⟩ := den1 dn
    exact h c d v Q E w h1 hF
  | _ :: _ :: _, _, hF => exact False.elim hF
theorem simC2 {r : List V → Hp → VK → Prop} {f : D → D → M D} (h : ∀ c d e v u Q E, WF C c → Den C c.G c.ρ d v → Den C c.G c.ρ e u → Fn C c (f d e c.s) (KD C Q) E → r [v, u] c.H Q) : SimC C r (on2 f) := by
  intro c ds vs Q E w dn hF
  match ds, dn, hF with
  | [], _, hF => exact False.elim hF
  | [_], _, hF => exact False.elim hF
  | [d, e], dn, hF =>
    obtain ⟨v, u, rfl, h1, h2⟩ := den2 dn
    exact h c d e v u Q E w h1 h2 hF
  | _ :: _ :: _ :: _, _, hF => exact False.elim hF
theorem simCN1 {r : List V → Hp → VK → Prop} {f : D → M O} (h : ∀ c d v Q E, WF C c → Den C c.G c.ρ d v → Fn C c (f d c.s) (KN C c Q) E → r [v] c.H Q) : SimCN C r (on1 f) := by
  intro c ds vs Q E w dn hF
  match ds, dn, hF with
  | [], _, hF => exact False.elim hF
  | [d], dn, hF =>
    obtain ⟨v, rfl, h1⟩ := den1 dn
    exact h c d v Q E w h1 hF
  | _ :: _ :: _, _, hF => exact False.elim hF
/-! #### len -/
def oLen : D → M D
  | .str z => guardM (szOk z.length) >>= fun _ => pure (.int z.length)
  | .tup ds => pure (.int ds.length)
  | d => rdL d >>= fun ds => pure (.int ds.length)
def rLenU (K : PySem.W.Frag) : List V → Hp → VK → Prop := fun xs H Q => (∃ p ys, xs = [.ref p] ∧ (SqL K H p ys ∨ SqT K H p ys) ∧ Q (.int ys.length) H) ∨ ∃ z, xs = [.str z] ∧ z.length ≤ sizeLine ∧ Q (.int z.length) H
theorem call_lenU : CallR X (.builtin "len") (rLenU X.K) := call_len_seq.or call_len_str
theorem s_len : SimC C (rLenU C.K) (on1 oLen) := simC1 fun c d v Q E w dn hF => by
  have lists : ∀ d, Den C c.G c.ρ d v → Fn C c ((rdL d >>= fun ds => pure (.int ds.length)) c.s) (KD C Q) E → rLenU C.K [v] c.H Q := fun d dn hF => by
    obtain ⟨p, vs, ds, rfl, hq, l, hF2⟩ := rdL_sim w dn hF
    have := Fn.ok w hF2 _ rfl
    rw [← l.length] at this
    exact .inl ⟨p, vs, rfl, .inl hq, this⟩
  cases d <;> first | exact lists _ dn hF | skip
  · obtain ⟨hz, hF2⟩ := Fn.guard hF
    cases (show v = _ from dn)
    exact .inr ⟨_, rfl, szOk_line hz, Fn.ok w hF2 _ rfl⟩
  · obtain ⟨a, vs, rfl, ha, l⟩ := dn
    have := Fn.ok w hF _ rfl
    rw [← l.length] at this
    exact .inl ⟨a, vs, rfl, .inr (w.ext.sqt ha), this⟩
end
end DL
set_option Elab.async false
set_option linter.all false
set_option maxRecDepth 100000
set_option maxHeartbeats 2000000
/-! # Own errors: a class whose maker says super().__init__(text), then self.f = f -/
namespace PySem
namespace ErrX
open PySem.W PySem.Calls PyProof.Rows PySem.HandSPX
def eiA (f : Str) (p1 p2 : Pos) : Arguments := { posonlyargs := [], args := [{ arg := "self", annotation := none, pos := p1 }, { arg := f, annotation := none, pos := p2 }], vararg := none, kwonlyargs := [], kw_defaults := [], kwarg := none, defaults := [] }
def eiB (m f : Str) (j : Nat) (p0 p1 p2 p3 p4 p5 q1 q2 q3 q4 : Pos) : List Stmt :=
  [.Expr (.Call (.Attribute (.Call (.Name "super" p0) [] [] p1) "__init__" p2) [.Constant (.str m) j p3] [] p4) p5, .Assign [.Attribute (.Name "self" q1) f q2] (.Name f q3) q4]
def eiS (f : Str) : Scope := { kind := .function, names := [(PySem.Str.ofString "self", .local), (f, .local), (PySem.Str.ofString "__class__", .free), (PySem.Str.ofString "super", .globalImplicit)], isGenerator := false, isCoroutine := false, more := [] }
/-- the call's reading -/
def ErrCall (m : Str) (j : Nat) (p0 p1 p2 p3 p4 : Pos) : Prop := ∃ pl : Sem Bool, ∀ env : Env, eval (.Call (.Attribute (.Call (.Name "super" p0) [] [] p1) "__init__" p2) [.Constant (.str m) j p3] [] p4) env = (do
      let ov ← attributeBase (.Call (.Name "super" p0) [] [] p1) "__init__" env (eval (.Call (.Name "super" p0) [] [] p1) env)
      standAt p2.atName
      let (f, first) ← holding [ov] (getMethod ov "__init__" pl)
      callWith p4 f first (backTo p4 (starEach [.Constant (.str m) j p3] env)) [])
/-- what the top wrote of the class at C and its maker at fI; f: the field -/
structure ErrTxt (P : Program) (K : Frag) (mg : Str → Option Value) (x f : Str) (C fI : Addr) : Prop where
  gC : mg x = some (.ref C)
  cls : ∃ nm q N bs bm sn sub ab col dd k0 k1 k2 k3 k5, K.lookup C = some (excClassObj nm q C N bs bm true sn sub ab col dd k0 k1 k2 k3 k5 "ValueError.__new__") ∧ refsVE bm = true
  sa : findIn K (.ref C) "__setattr__" = some (some (.builtin "object.__setattr__"))
  noN : findIn K (.ref C) f = some none
  iC : findIn K (.ref C) "__init__" = some (some (.ref fI))
  tC : typeIn K (.ref fI) = some (.type "function")
  kC : keepIn K (.ref C) = true
  exC : subIn K (.ref C) (.type "BaseException") = some true
  tyC : typeIn K (.ref C) = some (.type "type")
  su : ks_superIn K C C "__init__" = some (some (.builtin "ValueError.__init__"))
  opq : nsIn K cStatics "thirdparty.any" = some none
  sv : subIn K (.ref C) (.type "ValueError") = some true
  se : mroIn K C (.ref C) = some true
  ms : mg "super" = none
  top : (P.main.scope.names.lookup ("super" : Str)).isSome = false
  fn : ∃ (oc : Value) (od : Option Addr) (qual m : Str) (j : Nat) (doc pm : Value) (an : Option Addr) (cda : Addr) (ct : Value) (cc : Addr) (osl : Array (Option Value)) (r1 r2 p0 p1 p2 p3 p4 p5 q1 q2 q3 q4 : Pos),
    K.lookup fI = some ⟨oc, od, .func (ksFn "__init__" qual (eiA f r1 r2) (eiB m f j p0 p1 p2 p3 p4 p5 q1 q2 q3 q4) (eiS f) .none .none doc pm an (.ref cda) ct cc), osl⟩ ∧ codeIn K (.ref cda) qual = true ∧ ErrCall m j p0 p1 p2 p3 p4 ∧
    (∃ (ccl : Value) (cdd : Option Addr) (vs : Array Value) (ccs : Array (Option Value)) (file : Str) (tf : Tok), K.lookup cda = some ⟨ccl, cdd, .fields vs, ccs⟩ ∧ vs[2]? = some (.str file tf) ∧ ((P.main.file : Str) == file) = true) ∧
    ∃ (cl : Value) (cld : Option Addr) (csl : Array (Option Value)), K.lookup cc = some ⟨cl, cld, .cell (some (.ref C)), csl⟩
  k1 : (("self" : Str) == f) = false
  k2 : (("__class__" : Str) == f) = false
  k3 : (("super" : Str) == f) = false
  k4 : (f == ("__debug__" : Str)) = false
  k5 : (f == ("self" : Str)) = false
  bi : ∀ (qual : Str) (body : List Stmt) (r1 r2 : Pos) (doc pm : Value) (an : Option Addr) (cdv ct : Value) (cc : Addr) (u v : Value), bindArgs (ksFn "__init__" qual (eiA f r1 r2) body (eiS f) .none .none doc pm an cdv ct cc) ⟨[u, v], []⟩ = pure [(PySem.Str.ofString "self", u), (f, v)]
theorem kept_but {K : Frag} {h h' : Heap} {x : Addr} (X : K.In h) (hx : K.lookup x = none) (k : ∀ b o, b ≠ x → h.get? b = some o → h'.get? b = some o) : K.In h' := fun a o e =>
  k a o (fun z => by rw [z, hx] at e; cases e) (X a o e)
/-- what the maker leaves of a fresh error at x -/
structure InitEnd (h h' : Heap) (x C dx : Addr) (f : Str) (v : Value) : Prop where
  keep : ∀ b o, b ≠ x → h.get? b = some o → h'.get? b = some o
  obj : ∃ t1, h'.get? x = some { cls := .ref C, dict := some dx, data := .fields #[.ref t1, .none, .none, .none, .bool false, .none] }
  dbig : h.objs.size ≤ dx
  dne : dx ≠ x
  ns : h'.Ns1 dx (fun y => if y = f then some v else none)
/-- a made error -/
structure OwnMade (h h' : Heap) (e C d : Addr) (f : Str) (v : Value) : Prop where
  keep : ∀ b o, h.get? b = some o → h'.get? b = some o
  new : h.objs.size ≤ e
  obj : ∃ oe vs, h'.get? e = some oe ∧ oe.cls = .ref C ∧ oe.dict = some d ∧ oe.data = .fields vs ∧ vs[1]? = some .none
  dbig : h.objs.size ≤ d
  dne : d ≠ e
  ns : h'.Ns1 d (fun y => if y = f then some v else none)
section
variable {prog : Program} {w : World} {A : Around} {E : Value → Shared → Prop} {R : Result → Shared → Prop} {s : Shared} {K : Frag} {mg : Str → Option Value} {C fI : Addr} {x0 f : Str} {base : Heap}
theorem one_size (v : Value) : [v].length ≤ sizeLine := by
  rw [sizeLine_eq]
  exact (by decide : 1 ≤ 16777216)
/-- the bound ValueError.__init__ called -/
theorem call_mw {u e t0 : Addr} {rest : List Value} {Q : Value → Shared → Prop} {nm q : Str} {N : Addr} {bs bm : List Value} {hdct : Bool} {sn : List Str} {sub : List Value} {ab : Bool} {col : Option Bool} {dd : Option Addr} {k0 k1 k2 k3 k5 : Option Value} {h : Heap} {g : Array GenState} {d : Drawn} {t : Nat} {os : OsState}
    (hC : h.get? C = some (excClassObj nm q C N bs bm hdct sn sub ab col dd k0 k1 k2 k3 k5 "ValueError.__new__")) (he : h.get? e = some (excO C t0)) (hu : h.get? u = some (kxs_mw "ValueError.__init__" e)) (hrest : rest.length ≤ sizeLine)
    (hq : ∀ h' t1, (∀ b o, b ≠ e → h.get? b = some o → h'.get? b = some o) → h'.get? e = some (excO C t1) → Q .none ⟨h', g, d, t, os⟩) :
    wpAny (model prog w) A (call (.ref u) rest) Q E ⟨h, g, d, t, os⟩ := by
  have FB := F.excBase_ValueError
  refine wpAny_call (codeAny_of_tree ?_)
  show wpAny _ A.in1 (callAny (.ref u) ⟨rest, []⟩) _ _ _
  simp only [callAny]
  refine wpAny_bind (wpAny_load hu ?_)
  simp only [kxs_mw, show (Value.type "method-wrapper" == Value.type "method" || Value.type "method-wrapper" == Value.type "builtin_function_or_method" || Value.type "method-wrapper" == Value.type "method-wrapper") = true by decide, if_true]
  refine W.KFB.if_so (by decide) ?_
  refine wpAny_bind (check_bound_init FB.toExcCallFacts hC he rfl ?_)
  refine wpAny_bind (wpAny_pure (wpAny_pure ?_))
  refine ⟨plainId_quiet FB.init.plain _, codeAny_builtin FB.initEntry ?_⟩
  exact exc_init_tree (cls := .ref C) (t0 := t0) (dv := none) (c2 := .none) (c3 := .none) (b4 := .bool false) he hrest fun h' k e' _ => hq h' _ k e'
theorem err_init (T : ErrTxt prog K mg x0 f C fI) (Mo : L2.Mod K mg base) {x t0 : Addr} {v : Value} (bk : ∀ b o, base.get? b = some o → s.heap.get? b = some o) (hlim : s.heap.NoLimit) (hx : s.heap.get? x = some (excO C t0)) (hnx : K.lookup x = none) (hnb : base.get? x = none) (hroom : A.depth < recursionLimit)
    (hq : ∀ h' tk dx, InitEnd s.heap h' x C dx f v → R (.ok (.ret .none)) { s with heap := h', toks := tk }) :
    codeAny (model prog w) A (.call (.ref fI) ⟨[.ref x, v], []⟩) R s := by
  obtain ⟨oc, od, qual, m, j, doc, pm, an, cda, ct, cc, osl, r1, r2, p0, p1, p2, p3, p4, p5, q1, q2, q3, q4, ho, hcd, ⟨pl, hpl⟩, ⟨ccl, cdd, vs, ccs, file, tf, hcode, hvs, hfile⟩, cl, cld, csl, hcell⟩ := T.fn
  obtain ⟨nm, q, N, bs, bm, sn, sub, ab, col, dd, k0, k1, k2, k3, k5, hC, hbm⟩ := T.cls
  have X : K.In s.heap := Mo.kin.keeps bk
  have hcl : clsIn K C = some { name := nm, bases := bs, mro := .ref C :: bm, ns := N, qualname := q, hasDict := true, slotNames := sn, subclasses := sub, abstract := ab, collection := col, hasDel := false } := by unfold clsIn; rw [hC] <;> rfl
  obtain ⟨mb, hb1, hb2⟩ := Mo.blt
  refine ks_codeAny_call_defAt (fd := ksFn "__init__" qual (eiA f r1 r2) (eiB m f j p0 p1 p2 p3 p4 p5 q1 q2 q3 q4) (eiS f) .none .none doc pm an (.ref cda) ct cc) (body := eiB m f j p0 p1 p2 p3 p4 p5 q1 q2 q3 q4) (binds := [("self", .ref x), (f, v)])
    hroom (X _ _ ho) rfl hlim (codeRec_of X hcd) rfl (BindsTo.of_eq (T.bi _ _ _ _ _ _ _ _ _ _ _ _)) ?_ ?_ (fun h₁ hn k => ?_) rfl rfl rfl
  · intro y hy
    simp only [ksFn, eiS, List.mem_cons, List.not_mem_nil, or_false] at hy
    rcases hy with rfl | rfl | rfl | rfl <;> exact fun z => by cases z
  · intro y hy
    simp only [List.mem_cons, List.not_mem_nil, or_false] at hy
    rcases hy with rfl | rfl
    · rfl
    · show List.lookup f (eiS f).names = some .local
      unfold eiS
      rw [List.lookup_cons, show (f == PySem.Str.ofString "self") = false from T.k5]
      simp [List.lookup_cons]
  have X₁ : K.In h₁ := X.keeps k
  have hx₁ := k _ _ hx
  have IA : InstAt h₁ x (excO C t0) C none := ⟨hx₁, rfl, rfl, trivial⟩
  have ksup : List.lookup ("super" : Str) (eiS f).names = some .globalImplicit := by
    unfold eiS
    rw [List.lookup_cons, show (("super" : Str) == PySem.Str.ofString "self") = false by decide, List.lookup_cons, T.k3]
    decide
  have kcls : List.lookup ("__class__" : Str) (eiS f).names = some .free := by
    unfold eiS
    rw [List.lookup_cons, show (("__class__" : Str) == PySem.Str.ofString "self") = false by decide, List.lookup_cons, T.k2]
    decide
  have kself : List.lookup ("self" : Str) (eiS f).names = some .local := rfl
  have kf : List.lookup f (eiS f).names = some .local := by
    unfold eiS
    rw [List.lookup_cons, show (f == PySem.Str.ofString "self") = false from T.k5]
    simp [List.lookup_cons]
  have mself : (fun y => List.lookup y ([(("self" : Str), Value.ref x), (f, v)] : List (Str × Value)).reverse) "self" = some (.ref x) := by
    show List.lookup ("self" : Str) [(f, v), ("self", .ref x)] = _
    rw [List.lookup_cons, T.k1]
    rfl
  have mf : (fun y => List.lookup y ([(("self" : Str), Value.ref x), (f, v)] : List (Str × Value)).reverse) f = some v := by
    show List.lookup f [(f, v), ("self", .ref x)] = _
    simp [List.lookup_cons]
  refine ks_wpAt_execs_cons (ks_wpAt_Expr_any (ks_wpAt_MethodCall (pl := pl) ?_ (hpl _)) ?_ ?_)
  · refine ks_wpAt_super_base (env := ksEnv qual (eiS f) s.heap.objs.size fI (.ref cda) cc) ksup kcls (by decide) rfl (X₁ _ _ ho) rfl rfl rfl (X₁ _ _ hcode) rfl hvs hfile T.top ?_
    refine ks_loadName_global rfl ksup (loadGlobal_builtin (env := ksEnv qual (eiS f) s.heap.objs.size fI (.ref cda) cc) (Mo.glob.keeps fun b o e => k b o (bk b o e)) T.ms (hb1.keeps fun b o e => k b o (bk b o e)) ((hb2 _ (by decide)).trans (by rfl)) ⟨rfl, ?_⟩)
    refine wpAny_loadName_free rfl kcls rfl ⟨_, X₁ _ _ hcell, rfl⟩ ?_
    refine wpAny_loadName_local rfl kself hn mself ?_
    refine ks_wpAny_isType_cls (X₁ _ _ hC) rfl ⟨rfl, ?_⟩
    refine ks_wpAny_call_super (X₁ _ _ hC) rfl hx₁ rfl (fun c z => by cases z) (looks_mroIn X₁ T.se) (fun h₂ e₂ k₂ => ?_)
    have X₂ : K.In h₂ := X₁.keeps k₂
    have hx₂ := k₂ _ _ hx₁
    have I₂ : InstAt h₂ x (excO C t0) C none := ⟨hx₂, rfl, rfl, trivial⟩
    have hI : Looks (model prog w) h₂ (isInstance (.ref x) (.type "ValueError")) true := I₂.type.andThen (looks_subIn X₂ T.sv)
    have hm := T.su
    unfold ks_superIn at hm
    rw [hcl] at hm
    have hnn := hn.keeps k₂
    have szs : s.heap.objs.size < h₁.objs.size := hn.lt
    have sz2 : h₁.objs.size < h₂.objs.size := Heap.lt_size e₂
    refine kxs_getMethod kxs_ValueError e₂ (looks_opaque X₂ T.opq) (l₀ := .ref C :: bm) ?_ rfl X₂ hm hI (ks_ne X₂ I₂ hcl) (by decide) ?_
    · exact fun A Q E s k q => wpAny_bind ((looks_clsIn X₂ hcl) A _ E s k (wpAny_pure q))
    have k₃ : ∀ b o, h₂.get? b = some o → (h₂.push (kxs_mw "ValueError.__init__" x)).get? b = some o := fun b o e => Heap.get?_push_of_some _ e
    have hu : (h₂.push (kxs_mw "ValueError.__init__" x)).get? h₂.objs.size = some (kxs_mw "ValueError.__init__" x) := Heap.get?_push_at rfl rfl
    refine kxs_callWith (i := "ValueError.__init__") (x := x) (by rfl) ?_
    refine evalArgs_plain (x := eval (.Constant (.str m) j p3) _) (rest := []) ?_
    refine Calls.spliced_cons (Calls.Constant_str (Calls.spliced_nil ?_))
    refine ⟨hu, ?_⟩
    show wpAny _ _ (call (.ref h₂.objs.size) [.str m _]) _ _ _
    refine call_mw (C := C) (k₃ _ _ (X₂ _ _ hC)) (k₃ _ _ hx₂) hu (one_size _) fun h₃ t1 k₄ hx₃ => ?_
    have bkx : ∀ b o, s.heap.get? b = some o → b ≠ x → h₃.get? b = some o := fun b o e n => k₄ b o n (k₃ _ _ (k₂ _ _ (k _ _ e)))
    have X₃ : K.In h₃ := fun a o e => bkx a o (X a o e) fun z => by rw [z, hnx] at e; cases e
    have Lx : s.heap.objs.size ≠ x := Nat.ne_of_gt (Heap.lt_size hx)
    have hn₃ : h₃.Ns s.heap.objs.size (fun y => List.lookup y ([(("self" : Str), Value.ref x), (f, v)] : List (Str × Value)).reverse) := by
      obtain ⟨oL, es, ep, hL, r⟩ := hnn
      exact ⟨oL, es, ep, k₄ _ _ Lx (k₃ _ _ hL), r⟩
    have sz3 : h₂.objs.size < h₃.objs.size := Heap.lt_size (k₄ _ _ (fun z => by
      have := Heap.lt_size hx₂
      rw [← z] at this
      exact absurd this (Nat.lt_irrefl _)) hu)
    refine wpAt_of_wpAny ?_
    refine wpAny_execs_cons (plainObj_wpAny_Assign_Attribute ?_)
    refine wpAny_Name (wpAny_loadName_local rfl kf hn₃ mf ?_) T.k4
    refine wpAny_Name (wpAny_loadName_local rfl kself hn₃ mself ?_) (by decide)
    refine set_plain X₃ (ox := excO C t1) (od := none) ⟨hx₃, rfl, rfl, trivial⟩ T.sa ?_
    refine exc_osa X₃ hx₃ hcl (show refsVE (.ref C :: bm) = true from hbm) rfl T.noN (fun h₅ tk₅ dx k₅ dn dne hx₅ hn₅ => ?_)
    show wpAny _ _ (execs _ _) _ _ _
    refine wpAny_execs_nil (hq h₅ tk₅ dx ⟨fun b o hb e => k₅ b o hb (bkx b o e hb), ⟨_, hx₅⟩, ?_, dne, hn₅⟩)
    exact Nat.le_of_lt (Nat.lt_of_lt_of_le (Nat.lt_trans (Nat.lt_trans szs sz2) sz3) dn)
  all_goals rfl
theorem err_made (T : ErrTxt prog K mg x0 f C fI) (Mo : L2.Mod K mg base) {v : Value} (bk : ∀ b o, base.get? b = some o → s.heap.get? b = some o) (hlim : s.heap.NoLimit) (hroom : A.depth + 1 < recursionLimit)
    (hq : ∀ h' tk e d, OwnMade s.heap h' e C d f v → R (.ok (.ret (.ref e))) { s with heap := h', toks := tk }) :
    codeAny (model prog w) A (.call (.ref C) ⟨[v], []⟩) R s := by
  obtain ⟨nm, q, N, bs, bm, sn, sub, ab, col, dd, k0, k1, k2, k3, k5, hC, hbm⟩ := T.cls
  have X : K.In s.heap := Mo.kin.keeps bk
  obtain ⟨hp, g, dr, tk, os⟩ := s
  have k : ∀ b o, hp.get? b = some o → ((hp.push (kdv_tup [v])).push (excO C hp.objs.size)).get? b = some o := fun b o e => Heap.get?_push_of_some _ (Heap.get?_push_of_some _ e)
  have hget : ((hp.push (kdv_tup [v])).push (excO C hp.objs.size)).get? (hp.objs.size + 1) = some (excO C hp.objs.size) := by heap_get
  have non : ∀ {G : Heap}, (∀ b o, G.get? b = some o → hp.get? b = some o) → G.get? (hp.objs.size + 1) = none := fun {G} kk => by
    cases e : G.get? (hp.objs.size + 1) with
    | none => rfl
    | some o => exact absurd (Nat.lt_of_succ_lt (Heap.lt_size (kk _ _ e))) (Nat.lt_irrefl _)
  have hnx : K.lookup (hp.objs.size + 1) = none := by
    cases e : K.lookup (hp.objs.size + 1) with
    | none => rfl
    | some o => exact absurd (Nat.lt_of_succ_lt (Heap.lt_size (X _ _ e))) (Nat.lt_irrefl _)
  refine call_own F.excBase_ValueError (fun X => refsVE_contains X bm hbm) (X _ _ hC) (looks_findIn X T.iC) (fun self => bind_fn X self T.tC) (one_size v) ?_
  refine err_init (s := ⟨(hp.push (kdv_tup [v])).push (excO C hp.objs.size), g, dr, tk, os⟩) T Mo (fun b o e => k b o (bk b o e)) (hlim.keeps k) hget hnx (non bk) ?_ fun h' tk' dx ⟨k', ⟨t1, hx⟩, dn, dne, hns⟩ => ?_
  · show A.depth + 1 < recursionLimit
    exact hroom
  · have old : ∀ b o, hp.get? b = some o → h'.get? b = some o := fun b o e => k' b o (Nat.ne_of_lt (Nat.lt_succ_of_lt (Heap.lt_size e))) (k b o e)
    have z : hp.objs.size + 1 + 1 ≤ dx := by
      first
        | (simpa only [Heap.size_push] using dn)
        | exact dn
        | (have q := dn; rw [Heap.size_push, Heap.size_push] at q; exact q)
    exact ⟨rfl, hq h' tk' (hp.objs.size + 1) dx ⟨old, Nat.le_succ _, ⟨_, _, hx, rfl, rfl, rfl, rfl⟩, Nat.le_trans (Nat.le_trans (Nat.le_succ _) (Nat.le_succ _)) z, dne, hns⟩⟩
end
end ErrX
end PySem
set_option Elab.async false
set_option linter.all false
set_option maxRecDepth 100000
set_option maxHeartbeats 2000000
/-! # raise, try, isinstance -/
namespace DL
open PySem L2
open PyProof.Rows hiding St
/-! ### a value without a caught error in it -/
mutual
def D.nox : D → Bool
  | .tup ds => noxL ds
  | .lst ds => noxL ds
  | .dct ks => noxK ks
  | .exn _ _ => false
  | _ => true
def noxL : List D → Bool
  | [] => true
  | d :: ds => d.nox && noxL ds
def noxK : List (Key × D) → Bool
  | [] => true
  | (_, d) :: ds => d.nox && noxK ds
end
def noxF : List (Str × D) → Bool
  | [] => true
  | (_, d) :: ds => d.nox && noxF ds
abbrev Ct.up (C : Ct) (e : Addr × Addr × Addr) : Ct := { C with ex := some e }
section
variable {C : Ct} {G : Hp} {ρ : List Addr} {e : Addr × Addr × Addr}
mutual
theorem Den.up (hx : C.ex = none) : ∀ (d : D) (v : V), Den C G ρ d v → Den (C.up e) G ρ d v ∧ d.nox = true
  | .non, _, h => ⟨h, rfl⟩
  | .bl _, _, h => ⟨h, rfl⟩
  | .int _, _, h => ⟨h, rfl⟩
  | .str _, _, h => ⟨h, rfl⟩
  | .tup ds, v, h => by
    simp only [Den] at h ⊢
    obtain ⟨a, vs, e', s, l⟩ := h
    have q := DenL.up hx ds vs l
    exact ⟨⟨a, vs, e', s, q.1⟩, by simp only [D.nox]; exact q.2⟩
  | .lst ds, v, h => by
    simp only [Den] at h ⊢
    obtain ⟨a, vs, e', s, l⟩ := h
    have q := DenL.up hx ds vs l
    exact ⟨⟨a, vs, e', s, q.1⟩, by simp only [D.nox]; exact q.2⟩
  | .dct ds, v, h => by
    simp only [Den] at h ⊢
    obtain ⟨a, vs, e', s, l⟩ := h
    have q := DenK.up hx ds vs l
    exact ⟨⟨a, vs, e', s, q.1⟩, by simp only [D.nox]; exact q.2⟩
  | .scr _, _, h => ⟨by simp only [Den] at h ⊢; exact h, rfl⟩
  | .loc _, _, h => ⟨by simp only [Den] at h ⊢; exact h, rfl⟩
  | .ob _, _, h => ⟨by simp only [Den] at h ⊢; exact h, rfl⟩
  | .cls _, _, h => ⟨by simp only [Den] at h ⊢; exact h, rfl⟩
  | .exn k fs, v, h => by
    simp only [Den] at h
    obtain ⟨a, dx, gs, _, x, _⟩ := h
    rw [hx] at x
    cases x
theorem DenL.up (hx : C.ex = none) : ∀ (ds : List D) (vs : List V), DenL C G ρ ds vs → DenL (C.up e) G ρ ds vs ∧ noxL ds = true
  | [], _, h => ⟨by simp only [DenL] at h ⊢; exact h, rfl⟩
  | d :: ds, vs, h => by
    simp only [DenL] at h ⊢
    obtain ⟨v, r, e', h1, h2⟩ := h
    have q1 := Den.up hx d v h1
    have q2 := DenL.up hx ds r h2
    exact ⟨⟨v, r, e', q1.1, q2.1⟩, by simp only [noxL, q1.2, q2.2, Bool.and_self]⟩
theorem DenK.up (hx : C.ex = none) : ∀ (ds : List (Key × D)) (vs : List (Key × V)), DenK C G ρ ds vs → DenK (C.up e) G ρ ds vs ∧ noxK ds = true
  | [], _, h => ⟨by simp only [DenK] at h ⊢; exact h, rfl⟩
  | (k, d) :: ds, vs, h => by
    simp only [DenK] at h ⊢
    obtain ⟨v, r, e', h1, h2⟩ := h
    have q1 := Den.up hx d v h1
    have q2 := DenK.up hx ds r h2
    exact ⟨⟨v, r, e', q1.1, q2.1⟩, by simp only [noxK, q1.2, q2.2, Bool.and_self]⟩
end
theorem DenF.up (hx : C.ex = none) : ∀ (ds : List (Str × D)) (vs : List (Str × V)), DenF C G ρ ds vs → DenF (C.up e) G ρ ds vs ∧ noxF ds = true
  | [], _, h => ⟨by simp only [DenF] at h ⊢; exact h, rfl⟩
  | (k, d) :: ds, vs, h => by
    simp only [DenF] at h ⊢
    obtain ⟨v, r, e', h1, h2⟩ := h
    have q1 := Den.up (e := e) hx d v h1
    have q2 := DenF.up hx ds r h2
    exact ⟨⟨v, r, e', q1.1, q2.1⟩, by simp only [noxF, q1.2, q2.2, Bool.and_self]⟩
mutual
theorem Den.dn : ∀ (d : D) (v : V), d.nox = true → Den (C.up e) G ρ d v → Den C G ρ d v
  | .non, _, _, h => h
  | .bl _, _, _, h => h
  | .int _, _, _, h => h
  | .str _, _, _, h => h
  | .tup ds, v, n, h => by
    simp only [Den] at h ⊢
    obtain ⟨a, vs, e', s, l⟩ := h
    exact ⟨a, vs, e', s, DenL.dn ds vs (by simpa only [D.nox] using n) l⟩
  | .lst ds, v, n, h => by
    simp only [Den] at h ⊢
    obtain ⟨a, vs, e', s, l⟩ := h
    exact ⟨a, vs, e', s, DenL.dn ds vs (by simpa only [D.nox] using n) l⟩
  | .dct ds, v, n, h => by
    simp only [Den] at h ⊢
    obtain ⟨a, vs, e', s, l⟩ := h
    exact ⟨a, vs, e', s, DenK.dn ds vs (by simpa only [D.nox] using n) l⟩
  | .scr _, _, _, h => by simp only [Den] at h ⊢; exact h
  | .loc _, _, _, h => by simp only [Den] at h ⊢; exact h
  | .ob _, _, _, h => by simp only [Den] at h ⊢; exact h
  | .cls _, _, _, h => by simp only [Den] at h ⊢; exact h
  | .exn k fs, v, n, h => by simp [D.nox] at n
theorem DenL.dn : ∀ (ds : List D) (vs : List V), noxL ds = true → DenL (C.up e) G ρ ds vs → DenL C G ρ ds vs
  | [], _, _, h => by simp only [DenL] at h ⊢; exact h
  | d :: ds, vs, n, h => by
    simp only [DenL] at h ⊢
    simp only [noxL, Bool.and_eq_true] at n
    obtain ⟨v, r, e', h1, h2⟩ := h
    exact ⟨v, r, e', Den.dn d v n.1 h1, DenL.dn ds r n.2 h2⟩
theorem DenK.dn : ∀ (ds : List (Key × D)) (vs : List (Key × V)), noxK ds = true → DenK (C.up e) G ρ ds vs → DenK C G ρ ds vs
  | [], _, _, h => by simp only [DenK] at h ⊢; exact h
  | (k, d) :: ds, vs, n, h => by
    simp only [DenK] at h ⊢
    simp only [noxK, Bool.and_eq_true] at n
    obtain ⟨v, r, e', h1, h2⟩ := h
    exact ⟨v, r, e', Den.dn d v n.1 h1, DenK.dn ds r n.2 h2⟩
end
theorem DenF.dn : ∀ (ds : List (Str × D)) (vs : List (Str × V)), noxF ds = true → DenF (C.up e) G ρ ds vs → DenF C G ρ ds vs
  | [], _, _, h => by simp only [DenF] at h ⊢; exact h
  | (k, d) :: ds, vs, n, h => by
    simp only [DenF] at h ⊢
    simp only [noxF, Bool.and_eq_true] at n
    obtain ⟨v, r, e', h1, h2⟩ := h
    exact ⟨v, r, e', Den.dn d v n.1 h1, DenF.dn ds r n.2 h2⟩
end
def O.nox : O → Bool
  | .lst ds => noxL ds
  | .dct ds => noxK ds
  | .ins _ fs => noxF fs
  | .lk ds => noxK ds
section
variable {C : Ct} {e : Addr × Addr × Addr}
theorem OR.up {G : Hp} {ρ : List Addr} (hx : C.ex = none) {o : O} {a : Addr} {h : HO} (q : OR C G ρ o a h) : OR (C.up e) G ρ o a h ∧ o.nox = true := by
  cases o with
  | lst ds => obtain ⟨vs, x, l⟩ := q; exact ⟨⟨vs, x, (DenL.up hx _ _ l).1⟩, (DenL.up (e := e) hx _ _ l).2⟩
  | dct ds => obtain ⟨vs, x, l⟩ := q; exact ⟨⟨vs, x, (DenK.up hx _ _ l).1⟩, (DenK.up (e := e) hx _ _ l).2⟩
  | ins c fs => obtain ⟨dx, gs, x, g, l⟩ := q; exact ⟨⟨dx, gs, x, g, (DenF.up hx _ _ l).1⟩, (DenF.up (e := e) hx _ _ l).2⟩
  | lk ds => obtain ⟨o, vs, x, l⟩ := q; exact ⟨⟨o, vs, x, (DenK.up hx _ _ l).1⟩, (DenK.up (e := e) hx _ _ l).2⟩
theorem OR.dn {G : Hp} {ρ : List Addr} {o : O} {a : Addr} {h : HO} (n : o.nox = true) (q : OR (C.up e) G ρ o a h) : OR C G ρ o a h := by
  cases o with
  | lst ds => obtain ⟨vs, x, l⟩ := q; exact ⟨vs, x, DenL.dn _ _ n l⟩
  | dct ds => obtain ⟨vs, x, l⟩ := q; exact ⟨vs, x, DenK.dn _ _ n l⟩
  | ins c fs => obtain ⟨dx, gs, x, g, l⟩ := q; exact ⟨dx, gs, x, g, DenF.dn _ _ n l⟩
  | lk ds => obtain ⟨o, vs, x, l⟩ := q; exact ⟨o, vs, x, DenK.dn _ _ n l⟩
theorem WF.up {c : Cf} (hx : C.ex = none) (w : WF C c) : WF (C.up e) c := ⟨w.ext, w.len, w.nd, w.dom, fun n o h => by
  obtain ⟨a, ho, x1, x2, x3, x4⟩ := w.cel n o h
  exact ⟨a, ho, x1, x2, x3, (OR.up hx x4).1⟩⟩
theorem WF.dn {c c1 : Cf} (hx : C.ex = none) (w1 : WF C c1) (hs : c.s = c1.s) (w : WF (C.up e) c) : WF C c := ⟨w.ext, w.len, w.nd, w.dom, fun n o h => by
  obtain ⟨a, ho, x1, x2, x3, x4⟩ := w.cel n o h
  rw [hs] at h
  obtain ⟨_, _, _, _, _, y⟩ := w1.cel n o h
  exact ⟨a, ho, x1, x2, x3, x4.dn (OR.up (e := e) hx y).2⟩⟩
theorem Rl.up {env : LE} {σ : L2.St} {c : Cf} (hx : C.ex = none) (h : Rl C env σ c) : Rl (C.up e) env σ c := by
  refine ⟨h.wf.up hx, h.len, fun i d q => ?_, fun i o q => ?_, h.apart⟩
  · obtain ⟨v, x, y⟩ := h.val i d q
    exact ⟨v, x, (Den.up hx _ _ y).1⟩
  · obtain ⟨a, ho, x1, x2, x3, x4, x5⟩ := h.own i o q
    exact ⟨a, ho, x1, x2, x3, x4, (OR.up hx x5).1⟩
theorem RlS.up {env : LE} {σ : L2.St} {c0 c : Cf} (hx : C.ex = none) (h : RlS C c0 env σ c) : RlS (C.up e) c0 env σ c := ⟨h.rl.up hx, h.ext, h.mine⟩
end

/-! ### raise X(e) -/
theorem relO_one {f0 : Str} {v : V} {v' : Value} (r : RelV v v') (f : Str) : RelO (List.lookup f [(f0, v)]) (if f = f0 then some v' else none) := by
  by_cases hw : f = f0
  · subst hw
    rw [if_pos rfl, show List.lookup f [(f, v)] = some v by simp [List.lookup]]
    exact r
  · have qw : (f == f0) = false := by simpa using hw
    rw [if_neg hw, show List.lookup f [(f0, v)] = none by simp [List.lookup, qw]]
    trivial
section
variable {X : Cx} {C : Ct} {c0 : Cf} {W : WX}
def tMkErr (A : Addr) (f : Str) (te : TE) : L2.St → Hp → XK → Prop := fun σ H Q => tCons te tNil σ H fun vs H1 => ∃ v, vs = [v] ∧ ∀ d, H1 d = none → Q (.ref A) (some d) (upd H1 d (.xd [(f, v)]))
theorem pmk_err {x f : Str} {A fI : Addr} {a : Expr} {te : TE} {p pos : Pos} {k : Nat} (T : PySem.ErrX.ErrTxt X.prog X.K X.mg x f A fI) (hr : Room k X.A) (ha : PE X a te) (hg : Gl X x := by rfl) (hdb : (x == ("__debug__" : Str)) = false := by decide)
    (he : starEach (a :: []) X.env = (false, eval a X.env) :: starEach [] X.env := by rfl) (hpl : (backTo pos (starEach [] X.env)).any (·.1) = false := by rfl) :
    PMk X (.Call (.Name x p) [a] [] pos) (tMkErr A f te) := by
  intro pins s σ H Q I h
  refine wpAny_Call_Name_kw (ld_glob I hg T.gC ?_ hdb)
  refine PySem.W.callWith_K (h₀ := X.base) I.ok.mod.kin T.kC (thn ((pa_cons ha pa_nil he).run pos pins s σ H _ I h) fun us s1 hh => ?_) he hpl
  obtain ⟨vs, H1, I1, r1, v, ev, q1⟩ := hh
  subst ev
  refine ⟨I1.kIn, ?_⟩
  cases r1 with
  | cons rv rn =>
    rename_i v' us'
    cases rn
    show wpAny _ _ (call (.ref A) [v']) _ _ _
    have hlim := I1.nolimit
    have bk := fun b o (e : X.base.get? b = some o) => I1.bk b o e
    obtain ⟨hp, g, dr, tk, os⟩ := s1
    refine wpAny_call (PySem.ErrX.err_made T I1.ok.mod bk hlim (by have := hr.dp; omega) fun h' tk' e d M => ?_)
    show MkP X pins σ Q (.ref e) ⟨h', g, dr, tk', os⟩
    obtain ⟨oe, fv, hoe, hc, hd, hdat, h1⟩ := M.obj
    have hns := M.ns
    obtain ⟨G', g1, g2⟩ := restrict h' fun b => decide (b ≠ e)
    have gk : ∀ b, b ≠ e → G'.get? b = h'.get? b := fun b hb => g1 b (decide_eq_true hb)
    have ge : G'.get? e = none := g2 e (by simp)
    have old : ∀ b o, hp.get? b = some o → G'.get? b = some o := fun b o q => (gk b (Nat.ne_of_lt (Nat.lt_of_lt_of_le (Heap.lt_size q) M.new))).trans (M.keep b o q)
    have ob : ObjOk X.prog X.w (upd H1 d (.xd [(f, v)])) G' d (.xd [(f, v)]) := ⟨_, hns.at (fun o q => (gk d M.dne).trans q), fun y => relO_one rv y⟩
    have J : Inv X pins σ (upd H1 d (.xd [(f, v)])) ⟨G', g, dr, tk', os⟩ := I1.laid (t' := tk') old M.dbig ob
    refine ⟨e, oe, fv, ⟨G', g, dr, tk', os⟩, _, .ref A, some d, rfl, J, fun b o q => ?_, ge, hoe, ⟨hc, hd⟩, hdat, h1, ?_, rfl, I1.bare, raises_own T.exC T.tyC, q1 d (I1.hok.fresh M.dbig)⟩
    · by_cases hb : b = e
      · have q' : G'.get? b = some o := q
        rw [hb, ge] at q'; cases q'
      · exact (gk b hb).symm.trans q
    · rw [upd_ne (Ne.symm M.dne)]
      exact I1.hok.fresh M.new
def sRaise (k : Nat) (f : Str) (m : LE → M D) : SM := sE m fun d env s => some (.xc (.own k) [(f, d)] env, s)
theorem s1_raise {x f : Str} {fI : Addr} {k : Nat} {a : Expr} {m : LE → M D} {p pos pos2 : Pos} {kr : Nat} (T : PySem.ErrX.ErrTxt X.prog X.K X.mg x f (C.ca k) fI) (hr : RoomG kr X.A) (tk : Takes X W) (ha : SE X C W a m) (hc : X.calm = true := by rfl) (hg : Gl X x := by rfl) (hdb : (x == ("__debug__" : Str)) = false := by decide)
    (he : starEach (a :: []) X.env = (false, eval a X.env) :: starEach [] X.env := by rfl) (hpl : (backTo pos (starEach [] X.env)).any (·.1) = false := by rfl) :
    SS1 X C c0 W (.Raise (some (.Call (.Name x p) [a] [] pos)) none pos2) (sRaise k f m) := by
  obtain ⟨t, pe, se⟩ := ha.out
  refine ⟨_, ps_raise hc tk (pmk_err T hr.room pe hg hdb he hpl), fun env σ c E hR hF => ?_⟩
  refine se env σ c _ hR.rl (hF.fn hR fun d c' x w hR' hF' v dn => ⟨v, rfl, fun q hq => ?_⟩)
  obtain ⟨w2, e2⟩ := lay_frozen (o := .xd [(f, v)]) w hq
  refine hF' σ ⟨upd c'.H q (.xd [(f, v)]), upd c'.G q (.xd [(f, v)]), c'.ρ, c'.s⟩ q [(f, v)] rfl (hR'.step e2 w2) e2.since upd_same ?_
  simp only [DenF]
  exact ⟨v, [], rfl, dn.mono e2.g e2.pre, rfl⟩
end
end DL
set_option Elab.async false
set_option linter.all false
set_option maxRecDepth 100000
set_option maxHeartbeats 2000000
/-! # try, isinstance -/
namespace DL
open PySem L2
open PyProof.Rows hiding St
section
variable {X : Cx} {C : Ct} {c0 : Cf} {W : WX}
def tS (C : Ct) (c0 : Cf) (W : WX) (m : SM) : TS := fun E σ H => ∃ env c, c.H = H ∧ RlS C c0 env σ c ∧ FS C c0 c W E (m env c.s)
theorem SS.canon {st : List Stmt} {m : SM} (h : SS X C c0 W st m) : PSs X st (tS C c0 W m) := by
  obtain ⟨t, p, s⟩ := h.out
  refine ⟨fun pins st σ H E I h => ?_⟩
  obtain ⟨env, c, rfl, hR, hF⟩ := h
  exact p.run pins st σ c.H E I (s env σ c E hR hF)
/-- the answer of a suite that only returns a value: the cells stay -/
noncomputable def sufRes (r : R D) (s' : S) : SR := match r with
  | .ok d s'' => open Classical in if s'' = s' ∧ d.nox = true then some (.rt d, s') else none
  | _ => none
noncomputable def sTryAs (i : Nat) (mt : Nat → Option Bool) (mb : SM) (me : LE → M D) : SM := fun env s => match mb env s with
  | some (.xc (.own j) fs env', s') => (match mt j with
    | some true => sufRes (me (env'.set i (some (.val (.exn j fs)))) s') s'
    | some false => some (.xc (.own j) fs env', s')
    | none => none)
  | some (.xc (.bi _) _ _, _) => none
  | r => r
/-- which own errors a clause names -/
structure Mt (K : PySem.W.Frag) (C : Ct) (k : Nat) (mt : Nat → Option Bool) : Prop where
  ex : ∀ j b, mt j = some b → PySem.W.exmOne K (.ref (C.ca j)) (.ref (C.ca k)) = some b
theorem s1_tryAs (i k : Nat) {x n : Str} {mt : Nat → Option Bool} {body : List Stmt} {e : Expr} {mb : SM} {me : LE → M D} {np rp pos pos' : Pos} (tk : Takes X W) (hm : Mt X.K C k mt) (hc : Names X x (.ref (C.ca k))) (hx : C.ex = none)
    (hb : ∀ (W' : WX) (pn : List (Addr × Obj)) (xe : Value → Shared → Prop), Takes (X.tr pn xe) W' → PassesOwn (model X.prog X.w) X.A X.env xe → SS (X.tr pn xe) C c0 W' body mb)
    (hsu : ∀ (a : Addr) (oe : Obj) (j : Nat) (dx : Addr) (pn : List (Addr × Obj)), mt j = some true → Zc (.ref (C.ca j)) (some dx) oe → (∃ vs, oe.data = .fields vs) → SE (X.suite a ((a, oe) :: pn)) (C.up (a, C.ca j, dx)) WN e me)
    (hN : X.N.Nodup) (hi : X.N[i]? = some n := by rfl) (hln : X.env.kindOf n = some .local := by rfl) (hs : X.stack = X.env :: X.outer := by rfl) (hf : X.env.frame = some X.env.locals := by rfl) :
    SS1 X C c0 W (.Try body [.ExceptHandler (some (.Name x np)) (some n) [.Return (some e) rp] pos'] [] [] pos) (sTryAs i mt mb me) := by
  refine ⟨_, ps_try_as (tb := fun W' => tS C c0 W' mb) (ts := fun a cls d E σ H => ∃ j dx env c, mt j = some true ∧ cls = .ref (C.ca j) ∧ d = some dx ∧ c.H = H ∧ RlS (C.up (a, C.ca j, dx)) c0 env σ c ∧ FS (C.up (a, C.ca j, dx)) c0 c WN E (sRet me env c.s)) hs hf hN hi hln hc tk
    (fun W' pn xe t p => (hb W' pn xe t p).canon) (fun a oe cls d pn hz hfv => ⟨fun pins st σ H E I h => ?_⟩), fun env σ c E hR hF => ?_⟩
  · obtain ⟨j, dx, env, c, hj, rfl, rfl, rfl, hR, hF⟩ := h
    obtain ⟨t, p, sm⟩ := (ss_one (s1_ret (c0 := c0) (pos := rp) (hsu a oe j dx pn hj hz hfv))).out
    exact p.run pins st σ c.H E I (sm env σ c E hR hF)
  · refine ⟨env, c, rfl, hR, ?_⟩
    unfold sTryAs at hF
    cases er : mb env c.s with
    | none => rw [er] at hF; exact hF
    | some r =>
      obtain ⟨f, s'⟩ := r
      rw [er] at hF
      cases f with
      | nx env' => exact hF
      | rt d => exact hF
      | bk env' => exact hF
      | ct env' => exact hF
      | xc cls fs env' =>
        cases cls with
        | bi n => exact False.elim hF
        | own j =>
          intro σ1 c1 dx gs q R y hd hfs
          cases em : mt j with
          | none => simp only [em] at hF; exact False.elim hF
          | some b =>
            simp only [em] at hF
            refine ⟨b, hm.ex j b em, fun hb1 a ha => ?_, fun hb0 => ?_⟩
            · subst hb1
              refine ⟨j, dx, env'.set i (some (.val (.exn j fs))), c1, em, rfl, rfl, rfl, (R.up hx).set ?_, ?_⟩
              · simp only [Den]
                exact ⟨a, dx, gs, rfl, rfl, hd, (DenF.up hx _ _ hfs).1⟩
              · have hF1 : FS C c0 c W E (sufRes (me (env'.set i (some (.val (.exn j fs)))) s') s') := hF
                unfold sufRes at hF1
                unfold sRet sE
                rw [q]
                cases er2 : me (env'.set i (some (.val (.exn j fs)))) s' with
                | ok d s2 =>
                  rw [er2] at hF1
                  simp only at hF1
                  split at hF1
                  · rename_i hh
                    obtain ⟨rfl, hn⟩ := hh
                    intro v c2 q2 x2 w2 d2
                    exact hF1 v c2 q2 x2 (WF.dn hx R.rl.wf (by rw [q2, q]) w2) (d2.dn _ _ hn)
                  · exact False.elim hF1
                | exc z fs' s2 => rw [er2] at hF1; exact False.elim hF1
                | stuck => rw [er2] at hF1; exact False.elim hF1
            · subst hb0
              exact hF σ1 c1 dx gs q R y hd hfs
/-- without a name -/
def sTryOnly (mt : Nat → Option Bool) (mb ms : SM) : SM := fun env s => match mb env s with
  | some (.xc (.own j) fs env', s') => (match mt j with
    | some true => ms env' s'
    | some false => some (.xc (.own j) fs env', s')
    | none => none)
  | some (.xc (.bi _) _ _, _) => none
  | r => r
theorem s1_tryOnly (k : Nat) {x : Str} {mt : Nat → Option Bool} {body suite : List Stmt} {b₀ : Stmt} {mb ms : SM} {np pos pos' : Pos} (tk : Takes X W) (hm : Mt X.K C k mt) (hc : Names X x (.ref (C.ca k)))
    (hb : ∀ (W' : WX) (pn : List (Addr × Obj)) (xe : Value → Shared → Prop), Takes (X.tr pn xe) W' → PassesOwn (model X.prog X.w) X.A X.env xe → SS (X.tr pn xe) C c0 W' body mb)
    (hsu : ∀ (a : Addr) (oe : Obj) (pn : List (Addr × Obj)), SS (X.suite a ((a, oe) :: pn)) C c0 W (b₀ :: suite) ms)
    (hs : X.stack = X.env :: X.outer := by rfl) (hf : X.env.frame = some X.env.locals := by rfl) :
    SS1 X C c0 W (.Try body [.ExceptHandler (some (.Name x np)) none (b₀ :: suite) pos'] [] [] pos) (sTryOnly mt mb ms) := by
  refine ⟨_, ps_try_only (tb := fun W' => tS C c0 W' mb) (ts := fun a cls d => tS C c0 W ms) hs hf hc tk
    (fun W' pn xe t p => (hb W' pn xe t p).canon) (fun a oe cls d pn hz hfv => (hsu a oe pn).canon), fun env σ c E hR hF => ?_⟩
  refine ⟨env, c, rfl, hR, ?_⟩
  unfold sTryOnly at hF
  cases er : mb env c.s with
  | none => rw [er] at hF; exact hF
  | some r =>
    obtain ⟨f, s'⟩ := r
    rw [er] at hF
    cases f with
    | nx env' => exact hF
    | rt d => exact hF
    | bk env' => exact hF
    | ct env' => exact hF
    | xc cls fs env' =>
      cases cls with
      | bi n => exact False.elim hF
      | own j =>
        intro σ1 c1 dx gs q R y hd hfs
        cases em : mt j with
        | none => simp only [em] at hF; exact False.elim hF
        | some b =>
          simp only [em] at hF
          refine ⟨b, hm.ex j b em, fun hb1 a ha => ?_, fun hb0 => ?_⟩
          · subst hb1
            exact ⟨env', c1, rfl, R, by rw [q]; exact FS.mono y hF⟩
          · subst hb0
            exact hF σ1 c1 dx gs q R y hd hfs
end
/-! ### e.f in a suite -/
def lookF (f : Str) : List (Str × D) → Option D
  | [] => none
  | (g, d) :: r => if f = g then some d else lookF f r
theorem lookF_den {C : Ct} {G : Hp} {ρ : List Addr} {f : Str} : ∀ {fs : List (Str × D)} {gs : List (Str × V)} {d : D}, DenF C G ρ fs gs → lookF f fs = some d → ∃ v, gs.lookup f = some v ∧ Den C G ρ d v
  | [], _, _, _, h => by cases h
  | (g, d') :: r, gs, d, l, h => by
    simp only [DenF] at l
    obtain ⟨v, r', rfl, h1, h2⟩ := l
    unfold lookF at h
    by_cases e : f = g
    · subst e
      rw [if_pos rfl] at h
      cases h
      exact ⟨v, by simp [List.lookup], h1⟩
    · rw [if_neg e] at h
      obtain ⟨u, x, y⟩ := lookF_den h2 h
      exact ⟨u, by rw [List.lookup_cons, show (f == g) = false by simpa using e]; exact x, y⟩
def oXf (f : Str) : D → M D
  | .exn _ fs => optM (lookF f fs)
  | _ => mStuck
def eXf (f : Str) (m : LE → M D) : LE → M D := fun env => m env >>= oXf f
section
variable {X : Cx} {C : Ct} {c0 : Cf} {W : WX}
theorem se_xf {a : Addr} {j : Nat} {dx : Addr} {oe : Obj} {pn : List (Addr × Obj)} {e : Expr} {m : LE → M D} {pos : Pos} {n : Str} (T : XfC X.K (C.ca j)) (hno : PySem.W.findIn X.K (.ref (C.ca j)) n = some none)
    (hz : Zc (.ref (C.ca j)) (some dx) oe) (hf : ∃ vs, oe.data = .fields vs) (he : SE (X.suite a ((a, oe) :: pn)) (C.up (a, C.ca j, dx)) W e m) (hb : attributeBase e n X.env (eval e X.env) = eval e X.env := by rfl) :
    SE (X.suite a ((a, oe) :: pn)) (C.up (a, C.ca j, dx)) W (.Attribute e n pos) (eXf n m) := by
  obtain ⟨t, p, s⟩ := he.out
  refine ⟨_, pe_xf T hno hz hf p hb, fun env σ c Q hR hF => ?_⟩
  refine s env σ c _ hR (Fn.bind hF fun x c1 e1 w1 hF1 v d1 => ?_)
  cases x <;> first | exact False.elim hF1 | skip
  rename_i k fs
  simp only [Den] at d1
  obtain ⟨a', dx', gs, rfl, q, g, l⟩ := d1
  simp only [Ct.up, Option.some.injEq, Prod.mk.injEq] at q
  obtain ⟨rfl, q2, rfl⟩ := q
  have hF2 : Fn (C.up (a, C.ca j, dx)) c1 ((optM (lookF n fs)) c1.s) (KD (C.up (a, C.ca j, dx)) Q) (fun a b H => W a b σ H) := hF1
  cases el : lookF n fs with
  | none => rw [el] at hF2; exact False.elim hF2
  | some d =>
    rw [el] at hF2
    obtain ⟨v, x1, x2⟩ := lookF_den l el
    exact ⟨rfl, rfl, dx, gs, v, rfl, w1.ext _ _ g, x1, Fn.ok w1 hF2 _ x2⟩
end
end DL
set_option Elab.async false
set_option linter.all false
set_option maxRecDepth 100000
set_option maxHeartbeats 2000000
/-! # Built-in functions and types -/
namespace DL
open PySem L2
open PyProof.Rows hiding St
section
variable {X : Cx} {C : Ct} {c0 : Cf} {W : WX}
/-! ### int, max, min -/
def oInt : D → M D
  | .int i => pure (.int i)
  | .bl b => pure (.int (if b then 1 else 0))
  | .str z => guardM (decide (z.length ≤ 640)) >>= fun _ => optM (PySem.intText? z) >>= fun n => pure (.int n)
  | _ => mStuck
def rIntU : List V → Hp → VK → Prop := fun xs H Q => ((∃ i, xs = [.int i] ∧ Q (.int i) H) ∨ ∃ k, xs = [.bl k] ∧ Q (.int (if k then 1 else 0)) H) ∨ ∃ a n, xs = [.str a] ∧ PySem.intText? a = some n ∧ a.length ≤ 640 ∧ Q (.int n) H
theorem call_intU : CallR X (.type "int") rIntU := call_int1.or call_int_str
theorem s_int : SimC C rIntU (on1 oInt) := simC1 fun c d v Q E w dn hF => by
  cases d <;> first | exact False.elim hF | skip
  · cases (show v = _ from dn)
    exact .inl (.inr ⟨_, rfl, Fn.ok w hF _ rfl⟩)
  · cases (show v = _ from dn)
    exact .inl (.inl ⟨_, rfl, Fn.ok w hF _ rfl⟩)
  · cases (show v = _ from dn)
    obtain ⟨hz, hF2⟩ := Fn.guard hF
    obtain ⟨n, en, hF3⟩ := Fn.optM hF2
    exact .inr ⟨_, n, rfl, en, of_decide_eq_true hz, Fn.ok w hF3 _ rfl⟩
def oMax2 : D → D → M D
  | .int i, .int j => pure (.int (if j > i then j else i))
  | _, _ => mStuck
def oMin2 : D → D → M D
  | .int i, .int j => pure (.int (if j < i then j else i))
  | _, _ => mStuck
theorem s_max2 : SimC C (fun xs H Q => ∃ i j, xs = [.int i, .int j] ∧ Q (.int (if j > i then j else i)) H) (on2 oMax2) := simC2 fun c d e v u Q E w dn en hF => by
  cases d <;> first | exact False.elim hF | skip
  cases e <;> first | exact False.elim hF | skip
  cases (show v = _ from dn)
  cases (show u = _ from en)
  exact ⟨_, _, rfl, Fn.ok w hF _ rfl⟩
theorem s_min2 : SimC C (fun xs H Q => ∃ i j, xs = [.int i, .int j] ∧ Q (.int (if j < i then j else i)) H) (on2 oMin2) := simC2 fun c d e v u Q E w dn en hF => by
  cases d <;> first | exact False.elim hF | skip
  cases e <;> first | exact False.elim hF | skip
  cases (show v = _ from dn)
  cases (show u = _ from en)
  exact ⟨_, _, rfl, Fn.ok w hF _ rfl⟩
/-! ### str -/
def oStr : D → M D
  | .str z => pure (.str z)
  | .int i => guardM (decide (i.natAbs.log2 < 1920)) >>= fun _ => pure (.str (toString i))
  | _ => mStuck
def rStrU : List V → Hp → VK → Prop := fun xs H Q => (∃ i, xs = [.int i] ∧ i.natAbs.log2 < 1920 ∧ Q (.str (toString i)) H) ∨ ∃ a, xs = [.str a] ∧ Q (.str a) H
theorem call_strU : CallR X (.type "str") rStrU := call_str_int.or SkE.call_str_str
theorem s_str : SimC C rStrU (on1 oStr) := simC1 fun c d v Q E w dn hF => by
  cases d <;> first | exact False.elim hF | skip
  · cases (show v = _ from dn)
    obtain ⟨hz, hF2⟩ := Fn.guard hF
    exact .inl ⟨_, rfl, of_decide_eq_true hz, Fn.ok w hF2 _ rfl⟩
  · cases (show v = _ from dn)
    exact .inr ⟨_, rfl, Fn.ok w hF _ rfl⟩
/-! ### list, tuple -/
def rdS : D → M (List D)
  | .tup ds => pure ds
  | d => rdL d
theorem rdS_sim {c : Cf} {x : D} {v : V} {β : Type} {f : List D → M β} {K : β → Cf → Prop} {E : XK} (w : WF C c) (dn : Den C c.G c.ρ x v) (h : Fn C c ((rdS x >>= f) c.s) K E) :
    ∃ p vs ds, v = .ref p ∧ (SqL C.K c.H p vs ∨ SqT C.K c.H p vs) ∧ DenL C c.G c.ρ ds vs ∧ Fn C c (f ds c.s) K E := by
  by_cases q : ∃ ds, x = .tup ds
  · obtain ⟨ds, rfl⟩ := q
    obtain ⟨a, vs, rfl, ha, l⟩ := dn
    exact ⟨a, vs, ds, rfl, .inr (w.ext.sqt ha), l, h⟩
  · have h' : Fn C c ((rdL x >>= f) c.s) K E := by
      cases x <;> first | exact h | exact absurd ⟨_, rfl⟩ q
    obtain ⟨p, vs, ds, e, s, l, h2⟩ := rdL_sim w dn h'
    exact ⟨p, vs, ds, e, .inl s, l, h2⟩
def nList : D → M O := fun d => rdS d >>= fun ds => pure (.lst ds)
theorem sn_listB {K : PySem.W.Frag} (hK : K = C.K) : SimCN C (fun xs H Q => ∃ p ys, xs = [.ref p] ∧ (SqL K H p ys ∨ SqT K H p ys) ∧ ∀ l, H l = none → Q (.ref l) (upd H l (.lst ys))) (on1 nList) := simCN1 fun c d v Q E w dn hF => by
  subst hK
  obtain ⟨p, vs, ds, rfl, hq, l, hF2⟩ := rdS_sim w dn hF
  refine ⟨p, vs, rfl, hq, fun a ha => ?_⟩
  obtain ⟨w2, e2⟩ := lay_new (o := .lst vs) w ha
  exact Fn.ok w2 (Fn.mono e2 hF2) a (.of (Ext.refl c) w ha ⟨vs, rfl, l⟩)
def oTuple : D → M D
  | .tup ds => pure (.tup ds)
  | d => rdL d >>= fun ds => pure (.tup ds)
theorem s_tuple {K : PySem.W.Frag} (hK : K = C.K) : SimC C (fun xs H Q => ∃ p ys, xs = [.ref p] ∧ ((SqL K H p ys ∧ ∀ l, H l = none → Q (.ref l) (upd H l (.tup ys))) ∨ (SqT K H p ys ∧ Q (.ref p) H))) (on1 oTuple) := simC1 fun c d v Q E w dn hF => by
  subst hK
  by_cases q : ∃ ds, d = .tup ds
  · obtain ⟨ds, rfl⟩ := q
    have k := Fn.ok w hF v dn
    obtain ⟨a, vs, rfl, ha, l⟩ := dn
    exact ⟨a, vs, rfl, .inr ⟨w.ext.sqt ha, k⟩⟩
  · have h' : Fn C c ((rdL d >>= fun ds => pure (.tup ds)) c.s) (KD C Q) E := by
      cases d <;> first | exact hF | exact absurd ⟨_, rfl⟩ q
    obtain ⟨p, vs, ds, rfl, hq, l, hF2⟩ := rdL_sim w dn h'
    refine ⟨p, vs, rfl, .inl ⟨hq, fun a ha => ?_⟩⟩
    obtain ⟨w2, e2⟩ := lay_frozen (o := .tup vs) w ha
    exact Fn.ok w2 (Fn.mono e2 hF2) _ ⟨a, vs, rfl, SqT.of upd_same, l.mono e2.g e2.pre⟩
/-! ### all, any of a list of bools -/
def blsOf : List D → Option (List Bool)
  | [] => some []
  | .bl b :: ds => (blsOf ds).map (b :: ·)
  | _ => none
theorem blsOf_den {G : Hp} {ρ : List Addr} : ∀ {ds : List D} {bs : List Bool} {vs : List V}, blsOf ds = some bs → DenL C G ρ ds vs → vs = bs.map V.bl
  | [], bs, vs, h, l => by
    cases h
    simp only [DenL] at l
    exact l
  | d :: ds, bs, vs, h, l => by
    simp only [DenL] at l
    obtain ⟨v, r, rfl, d1, d2⟩ := l
    cases d <;> first | (cases h; done) | skip
    obtain ⟨ms, e3, rfl⟩ := Option.map_eq_some_iff.mp h
    cases (show v = _ from d1)
    rw [blsOf_den e3 d2]
    rfl
def oAll (d : D) : M D := rdL d >>= fun ds => optM (blsOf ds) >>= fun bs => pure (.bl (bs.all id))
def oAny (d : D) : M D := rdL d >>= fun ds => optM (blsOf ds) >>= fun bs => pure (.bl (bs.any id))
theorem s_all {K : PySem.W.Frag} (hK : K = C.K) : SimC C (rAll K) (on1 oAll) := simC1 fun c d v Q E w dn hF => by
  subst hK
  obtain ⟨p, vs, ds, rfl, hq, l, hF2⟩ := rdL_sim w dn hF
  obtain ⟨bs, e, hF3⟩ := Fn.optM hF2
  cases blsOf_den e l
  exact ⟨p, bs, rfl, hq, Fn.ok w hF3 _ rfl⟩
theorem s_any {K : PySem.W.Frag} (hK : K = C.K) : SimC C (rAny K) (on1 oAny) := simC1 fun c d v Q E w dn hF => by
  subst hK
  obtain ⟨p, vs, ds, rfl, hq, l, hF2⟩ := rdL_sim w dn hF
  obtain ⟨bs, e, hF3⟩ := Fn.optM hF2
  cases blsOf_den e l
  exact ⟨p, bs, rfl, hq, Fn.ok w hF3 _ rfl⟩
/-! ### sorted of texts -/
def strsOf : List D → Option (List Str)
  | [] => some []
  | .str b :: ds => (strsOf ds).map (b :: ·)
  | _ => none
theorem strsOf_den {G : Hp} {ρ : List Addr} : ∀ {ds : List D} {bs : List Str} {vs : List V}, strsOf ds = some bs → DenL C G ρ ds vs → vs = bs.map V.str
  | [], bs, vs, h, l => by
    cases h
    simp only [DenL] at l
    exact l
  | d :: ds, bs, vs, h, l => by
    simp only [DenL] at l
    obtain ⟨v, r, rfl, d1, d2⟩ := l
    cases d <;> first | (cases h; done) | skip
    obtain ⟨ms, e3, rfl⟩ := Option.map_eq_some_iff.mp h
    cases (show v = _ from d1)
    rw [strsOf_den e3 d2]
    rfl
theorem denStrs {G : Hp} {ρ : List Addr} : ∀ ns : List Str, DenL C G ρ (ns.map .str) (ns.map V.str)
  | [] => .nil
  | n :: ns => .cons rfl (denStrs ns)
def leS (a b : Str) : Bool := !cpsLt b a
theorem leS_iff (a b : Str) : leS a b = true ↔ a.cps.toList ≤ b.cps.toList := by
  unfold leS cpsLt
  rw [Bool.not_eq_true', decide_eq_false_iff_not]
  exact List.not_lt
theorem leS_trans (a b c : Str) (h : leS a b = true) (k : leS b c = true) : leS a c = true := (leS_iff a c).mpr (List.le_trans ((leS_iff a b).mp h) ((leS_iff b c).mp k))
theorem leS_total (a b : Str) : (leS a b || leS b a) = true := by
  rcases List.le_total a.cps.toList b.cps.toList with h | h
  · rw [(leS_iff a b).mpr h]; rfl
  · rw [(leS_iff b a).mpr h, Bool.or_true]
theorem leS_anti (a b : Str) (h : leS a b = true) (k : leS b a = true) : a = b := by
  have e := List.le_antisymm ((leS_iff a b).mp h) ((leS_iff b a).mp k)
  obtain ⟨x⟩ := a
  obtain ⟨y⟩ := b
  congr
  exact Array.toList_inj.mp e
theorem rising_pw : ∀ (p : Str) (ys : List Str), risingS p ys = true → (p :: ys).Pairwise (fun x y => leS x y = true)
  | p, [], _ => by simp
  | p, x :: r, h => by
    simp only [risingS, Bool.and_eq_true] at h
    have ih := rising_pw x r h.2
    have px : leS p x = true := by
      unfold leS cpsLt
      rw [← ltCps_eq]
      exact h.1
    rw [List.pairwise_cons]
    refine ⟨fun y hy => ?_, ih⟩
    rcases List.mem_cons.mp hy with rfl | hy
    · exact px
    · exact leS_trans p x y px ((List.pairwise_cons.mp ih).1 y hy)
def srtS (xs : List Str) : List Str := xs.mergeSort leS
theorem srtS_of {ys xs : List Str} (p : ys.Perm xs) (h : sortedS ys = true) : ys = srtS xs := by
  have pw : ys.Pairwise (fun x y => leS x y = true) := by
    cases ys with
    | nil => simp
    | cons y r => exact rising_pw y r h
  exact PySem.W.Srt.the_of_perm leS leS_trans leS_total leS_anti p pw
def nSortS (d : D) : M O := rdL d >>= fun ds => optM (strsOf ds) >>= fun xs => guardM (decide (xs.length < 64)) >>= fun _ => pure (.lst ((srtS xs).map .str))
theorem sn_sortS {K : PySem.W.Frag} (hK : K = C.K) : SimCN C (rSortedS K) (on1 nSortS) := simCN1 fun c d v Q E w dn hF => by
  subst hK
  obtain ⟨p, vs, ds, rfl, hq, l, hF2⟩ := rdL_sim w dn hF
  obtain ⟨xs, e, hF3⟩ := Fn.optM hF2
  obtain ⟨hz, hF4⟩ := Fn.guard hF3
  cases strsOf_den e l
  refine ⟨p, xs, rfl, hq, of_decide_eq_true hz, fun ys a hp hs ha => ?_⟩
  cases srtS_of hp hs
  obtain ⟨w2, e2⟩ := lay_new (o := .lst ((srtS xs).map V.str)) w ha
  exact Fn.ok w2 (Fn.mono e2 hF4) a (.of (Ext.refl c) w ha ⟨_, rfl, denStrs _⟩)
end
end DL
set_option Elab.async false
set_option linter.all false
set_option maxRecDepth 100000
set_option maxHeartbeats 2000000
/-! # What is told of a value: repr, ==, in, isinstance -/
namespace DL
open PySem L2
open PyProof.Rows hiding St
/-! ### a value as plain Python data -/
def leafD : D → Option PyData
  | .non => some .none
  | .bl b => some (.bool b)
  | .int i => some (.int i)
  | .str s => some (.str s)
  | _ => none
def keyPy : Key → PyData
  | .inl i => .int i
  | .inr x => .str x
def leafK : List (Key × D) → Option (List (PyData × PyData))
  | [] => some []
  | (k, d) :: r => (leafD d).bind fun p => (leafK r).map ((keyPy k, p) :: ·)
def D.py2 : D → Option PyData
  | .dct kvs => (leafK kvs).map .dict
  | d => d.py
def pyM : D → M PyData
  | .loc n => fun s => match s[n]? with
    | some (some (.lst ds)) => (optM ((pyL ds).map .list) : M PyData) s
    | some (some (.dct kvs)) => (optM ((leafK kvs).map .dict) : M PyData) s
    | _ => .stuck
  | d => optM d.py2
inductive LeafP : V → PyData → Prop where
  | non : LeafP .non .none
  | bl (b : Bool) : LeafP (.bl b) (.bool b)
  | int (i : Int) : LeafP (.int i) (.int i)
  | str (x : Str) : LeafP (.str x) (.str x)
inductive LeafKP : List (Key × V) → List (PyData × PyData) → Prop where
  | nil : LeafKP [] []
  | cons {k : Key} {v : V} {p : PyData} {r : List (Key × V)} {ps : List (PyData × PyData)} : LeafP v p → LeafKP r ps → LeafKP ((k, v) :: r) ((keyPy k, p) :: ps)
/-- how the heap bears such data -/
def Rd (K : PySem.W.Frag) (H : Hp) (v : V) (p : PyData) : Prop := Dp K H v p ∨ ∃ a ws kvs, v = .ref a ∧ H a = some (.dK ws) ∧ LeafKP ws kvs ∧ p = .dict kvs
section
variable {C : Ct}
theorem leafD_p {G : Hp} {ρ : List Addr} {d : D} {p : PyData} {v : V} (e : leafD d = some p) (h : Den C G ρ d v) : LeafP v p := by
  cases d <;> first | (cases e; done) | skip
  all_goals
    cases e
    cases (show v = _ from h)
  · exact .non
  · exact .bl _
  · exact .int _
  · exact .str _
theorem leafK_p {G : Hp} {ρ : List Addr} : ∀ {kvs : List (Key × D)} {ps : List (PyData × PyData)} {ws : List (Key × V)}, leafK kvs = some ps → DenK C G ρ kvs ws → LeafKP ws ps
  | [], ps, ws, e, h => by
    cases e
    simp only [DenK] at h
    subst h
    exact .nil
  | (k, d) :: r, ps, ws, e, h => by
    simp only [DenK] at h
    obtain ⟨v, r', rfl, h1, h2⟩ := h
    obtain ⟨p, e1, e2⟩ := Option.bind_eq_some_iff.mp e
    obtain ⟨qs, e3, rfl⟩ := Option.map_eq_some_iff.mp e2
    exact .cons (leafD_p e1 h1) (leafK_p e3 h2)
theorem py2_rd {c : Cf} {d : D} {v : V} {p : PyData} (w : WF C c) (dn : Den C c.G c.ρ d v) (e : d.py2 = some p) : Rd C.K c.H v p := by
  by_cases q : ∃ kvs, d = .dct kvs
  · obtain ⟨kvs, rfl⟩ := q
    obtain ⟨a, ws, rfl, ha, l⟩ := dn
    obtain ⟨ps, e1, rfl⟩ := Option.map_eq_some_iff.mp (show (leafK kvs).map PyData.dict = some p from e)
    exact .inr ⟨a, ws, ps, rfl, w.ext _ _ ha, leafK_p e1 l, rfl⟩
  · have e' : d.py = some p := by
      cases d <;> first | exact e | exact absurd ⟨_, rfl⟩ q
    exact .inl (Den.dp w.ext d v p dn e')
theorem pyM_sim {c : Cf} {d : D} {v : V} {β : Type} {f : PyData → M β} {K : β → Cf → Prop} {E : XK} (w : WF C c) (dn : Den C c.G c.ρ d v) (h : Fn C c ((pyM d >>= f) c.s) K E) : ∃ p, Rd C.K c.H v p ∧ Fn C c (f p c.s) K E := by
  by_cases q : ∃ n, d = .loc n
  · obtain ⟨n, rfl⟩ := q
    obtain ⟨a, rfl, ha⟩ := dn
    have h' : Fn C c (R.bind (match c.s[n]? with
      | some (some (.lst ds)) => (optM ((pyL ds).map .list) : M PyData) c.s
      | some (some (.dct kvs)) => (optM ((leafK kvs).map .dict) : M PyData) c.s
      | _ => .stuck) f) K E := h
    cases q : c.s[n]? with
    | none => rw [q] at h'; exact False.elim h'
    | some o =>
      cases o with
      | none => rw [q] at h'; exact False.elim h'
      | some o =>
        obtain ⟨b, ho, r1, r2, r3, r4⟩ := w.cel n
          o q
        rw [ha] at r1
        cases r1
        cases o with
        | lst ds =>
          rw [q] at h'
          obtain ⟨vs, rfl, l⟩ := r4
          cases e : pyL ds with
          | none => simp only [e] at h'; exact False.elim h'
          | some ps =>
            simp only [e] at h'
            refine ⟨.list ps, .inl ?_, h'⟩
            exact .lst (SqL.of r3) (DenL.dp w.ext ds vs ps l e)
        | dct kvs =>
          rw [q] at h'
          obtain ⟨ws, rfl, l⟩ := r4
          cases e : leafK kvs with
          | none => simp only [e] at h'; exact False.elim h'
          | some ps =>
            simp only [e] at h'
            exact ⟨.dict ps, .inr ⟨a, ws, ps, rfl, r3, leafK_p e l, rfl⟩, h'⟩
        | ins _ _ => rw [q] at h'; exact False.elim h'
        | lk _ => rw [q] at h'; exact False.elim h'
  · have h' : Fn C c (((optM d.py2 : M PyData) >>= f) c.s) K E := by
      cases d <;> first | exact h | exact absurd ⟨_, rfl⟩ q
    obtain ⟨p, e, h2⟩ := Fn.optM h'
    exact ⟨p, py2_rd w dn e, h2⟩
end
/-! ### repr -/
def showOk (p : PyData) : Bool := p.showable && (decide (p.depth ≤ 40) && szOk p.shown.length) && (match p with | .dict _ => true | p => !p.hasDict)
def oRepr (d : D) : M D := pyM d >>= fun p => guardM (showOk p) >>= fun _ => pure (.str p.shown)
def rRepr (K : PySem.W.Frag) : List V → Hp → VK → Prop := fun xs H Q => ∃ v p, xs = [v] ∧ Rd K H v p ∧ showOk p = true ∧ Q (.str p.shown) H
theorem leafP_reads {h : Heap} {v : V} {p : PyData} {u : Value} (l : LeafP v p) (r : RelV v u) : Reads h u p [] := by
  cases l with
  | non => cases r; exact .none
  | bl b => cases r; exact .bool b
  | int i => obtain ⟨t, rfl⟩ := r; exact .int i t
  | str x => obtain ⟨t, rfl⟩ := r; exact .str x t
theorem keyPy_reads {h : Heap} {k : Key} {u : Value} (e : keyIs k u = true) : Reads h u (keyPy k) [] := by
  rcases keyIs_shape e with ⟨i, t, rfl, rfl⟩ | ⟨x, t, rfl, rfl⟩
  · exact .int i t
  · exact .str x t
theorem leafKP_reads {prog : Program} {w : World} {h : Heap} : ∀ {ws : List (Key × V)} {ps : List (PyData × PyData)} {vs : List (Key × Value)} {es : List DictEntry}, LeafKP ws ps → L2.KV ws vs → Pairs (mixKind prog w) es vs →
    ReadsAll h (es.map (·.key)) (ps.map (·.1)) [] ∧ ReadsAll h (es.map (·.val)) (ps.map (·.2)) []
  | _, _, _, _, LeafKP.nil, Paired.nil, Pairs.nil => ⟨ReadsAll.nil, ReadsAll.nil⟩
  | _, _, _, _, LeafKP.cons l lr, Paired.cons k kr, Pairs.cons p1 p2 p3 => by
    obtain ⟨q1, q2⟩ := leafKP_reads (prog := prog) (w := w) (h := h) lr kr p3
    obtain ⟨rfl, k2⟩ := k
    exact ⟨ReadsAll.cons (as := []) (bs := []) (keyPy_reads p1) q1, ReadsAll.cons (as := []) (bs := []) (by have z := leafP_reads (h := h) l k2; rw [← p2] at z; exact z) q2⟩
section
variable {X : Cx}
theorem call_reprU (hg : X.A.guards = some []) (hu : X.A.units + 64 < cLine) : CallR X (.builtin "repr") (rRepr X.K) := by
  intro pins s σ H xs us Q I r h
  obtain ⟨v, p, rfl, rd, ok, q⟩ := h
  obtain ⟨u, rfl, ru⟩ := vals1 r
  unfold showOk at ok
  simp only [Bool.and_eq_true, decide_eq_true_eq] at ok
  obtain ⟨⟨hs, hd, hz⟩, hdict⟩ := ok
  have hz' : p.shown.length ≤ sizeLine := szOk_line hz
  have fin : ∀ {h' : Heap} {tk t2 : Nat}, (∀ b o, s.heap.get? b = some o → h'.get? b = some o) → EP X pins σ Q (.str p.shown tk) { s with heap := h', toks := t2 } := fun {h' tk t2} k => ⟨.str p.shown, H, I.kept (t' := t2) k, ⟨_, rfl⟩, q⟩
  rcases rd with dp | ⟨a, ws, kvs, rfl, ha, lk, rfl⟩
  · have hnd : p.hasDict = false := by
      cases p <;> first | (simpa using hdict) | skip
      cases dp
    obtain ⟨as, rr⟩ := Dp.reads I p v u dp ru
    cases dp with
    | non => cases ru; exact PySem.P.repr_of_none (fin (h' := s.heap) fun _ _ z => z)
    | bl b => cases ru; exact PySem.P.repr_of_bool (fin (h' := s.heap) fun _ _ z => z)
    | int i =>
      obtain ⟨t, rfl⟩ := ru
      exact PySem.P.repr_of_int (by simpa [PyData.showable] using hs) (fin (h' := s.heap) fun _ _ z => z)
    | str x =>
      obtain ⟨t, rfl⟩ := ru
      exact PySem.P.repr_of_str (fin (h' := s.heap) fun _ _ z => z) hz'
    | lst h1 h2 =>
      cases ru
      exact repr_of_reads' rr hs (PyData.noDict_hsm hnd) hg (by omega) (fun _ _ z => z) (fun h' u tk k => fin k) hz'
    | tup h1 h2 =>
      cases ru
      exact repr_of_reads' rr hs (PyData.noDict_hsm hnd) hg (by omega) (fun _ _ z => z) (fun h' u tk k => fin k) hz'
  · cases ru
    obtain ⟨_, hsys, vs, kv, o, es, ep, ho, hx, hdt, hk, hp, _⟩ := (show ObjOk X.prog X.w H s.heap a (.dK ws) from I.hok a _ ha)
    obtain ⟨r1, r2⟩ := leafKP_reads (h := s.heap) lk kv hp
    exact repr_of_reads' (Reads.dict ho hx.1 hdt r1 r2) hs (fun _ => by
      simp only [List.append_nil, List.mem_cons, List.not_mem_nil, or_false]
      exact fun z => by rw [← z] at hsys; simp at hsys) hg (by omega) (fun _ _ z => z) (fun h' u tk k => fin k) hz'
end
theorem s_repr {C : Ct} {K : PySem.W.Frag} (hK : K = C.K) : SimC C (rRepr K) (on1 oRepr) := simC1 fun c d v Q E w dn hF => by
  subst hK
  obtain ⟨p, rd, hF2⟩ := pyM_sim w dn hF
  obtain ⟨ok, hF3⟩ := Fn.guard hF2
  exact ⟨v, p, rfl, rd, ok, Fn.ok w hF3 _ rfl⟩
end DL
set_option Elab.async false
set_option linter.all false
set_option maxRecDepth 100000
set_option maxHeartbeats 2000000
namespace DL
open PySem L2
open PyProof.Rows hiding St
section
variable {X : Cx} {C : Ct} {c0 : Cf} {W : WX}
/-! ### ==, != with the store read -/
def eqM (x y : D) : M Bool := match leafEq x y with
  | some b => pure b
  | none => pyM x >>= fun p => pyM y >>= fun q => guardM (SeqAt.shaped p && SeqAt.shaped q) >>= fun _ => pure (PyData.eqv p q)
def oEqS (x y : D) : M D := eqM x y >>= fun b => pure (.bl b)
def oNeS (x y : D) : M D := eqM x y >>= fun b => pure (.bl (!b))
theorem rd_dp {K : PySem.W.Frag} {H : Hp} {v : V} {p : PyData} (r : Rd K H v p) (s : SeqAt.shaped p = true) : Dp K H v p := by
  rcases r with r | ⟨a, ws, kvs, rfl, h, l, rfl⟩
  · exact r
  · have := PyData.hasDict_of_canLay _ (SeqAt.canLay_of_shaped s)
    simp [PyData.hasDict] at this
theorem s_eqS : SimO C (rEqU C.K) oEqS := by
  intro c x y v w Q E wf dx dy hF
  cases e : leafEq x y with
  | some b =>
    refine s_eq c x y v w Q E wf dx dy ?_
    have hF' : Fn C c (((match leafEq x y with
      | some b => pure b
      | none => pyM x >>= fun p => pyM y >>= fun q => guardM (SeqAt.shaped p && SeqAt.shaped q) >>= fun _ => pure (PyData.eqv p q) : M Bool) >>= fun b => pure (.bl b)) c.s) (KD C Q) E := hF
    rw [e] at hF'
    show Fn C c ((optM (eqD? x y) >>= fun b => pure (.bl b)) c.s) (KD C Q) E
    unfold eqD?
    rw [e]
    exact hF'
  | none =>
    have hF' : Fn C c (((match leafEq x y with
      | some b => pure b
      | none => pyM x >>= fun p => pyM y >>= fun q => guardM (SeqAt.shaped p && SeqAt.shaped q) >>= fun _ => pure (PyData.eqv p q) : M Bool) >>= fun b => pure (.bl b)) c.s) (KD C Q) E := hF
    rw [e] at hF'
    simp only [bind_assoc'] at hF'
    obtain ⟨p, rp, h1⟩ := pyM_sim wf dx hF'
    obtain ⟨q, rq, h2⟩ := pyM_sim wf dy h1
    obtain ⟨g, h3⟩ := Fn.guard h2
    rw [Bool.and_eq_true] at g
    exact .inr ⟨p, q, rd_dp rp g.1, rd_dp rq g.2, g.1, g.2, Fn.ok wf h3 _ rfl⟩
theorem s_neS : SimO C (rNeU C.K) oNeS := by
  intro c x y v w Q E wf dx dy hF
  cases e : leafEq x y with
  | some b =>
    refine s_ne c x y v w Q E wf dx dy ?_
    have hF' : Fn C c (((match leafEq x y with
      | some b => pure b
      | none => pyM x >>= fun p => pyM y >>= fun q => guardM (SeqAt.shaped p && SeqAt.shaped q) >>= fun _ => pure (PyData.eqv p q) : M Bool) >>= fun b => pure (.bl (!b))) c.s) (KD C Q) E := hF
    rw [e] at hF'
    show Fn C c ((optM (eqD? x y) >>= fun b => pure (.bl (!b))) c.s) (KD C Q) E
    unfold eqD?
    rw [e]
    exact hF'
  | none =>
    have hF' : Fn C c (((match leafEq x y with
      | some b => pure b
      | none => pyM x >>= fun p => pyM y >>= fun q => guardM (SeqAt.shaped p && SeqAt.shaped q) >>= fun _ => pure (PyData.eqv p q) : M Bool) >>= fun b => pure (.bl (!b))) c.s) (KD C Q) E := hF
    rw [e] at hF'
    simp only [bind_assoc'] at hF'
    obtain ⟨p, rp, h1⟩ := pyM_sim wf dx hF'
    obtain ⟨q, rq, h2⟩ := pyM_sim wf dy h1
    obtain ⟨g, h3⟩ := Fn.guard h2
    rw [Bool.and_eq_true] at g
    exact .inr ⟨p, q, rd_dp rp g.1, rd_dp rq g.2, g.1, g.2, Fn.ok wf h3 _ rfl⟩
/-! ### in, not in -/
def flatD : D → Option V
  | .non => some .non
  | .bl b => some (.bl b)
  | .int i => some (.int i)
  | .str s => some (.str s)
  | _ => none
def flatsD : List D → Option (List V)
  | [] => some []
  | d :: ds => (flatD d).bind fun v => (flatsD ds).map (v :: ·)
theorem flatD_den {G : Hp} {ρ : List Addr} {d : D} {v u : V} (e : flatD d = some u) (h : Den C G ρ d v) : v = u ∧ flatV u = true := by
  cases d <;> first | (cases e; done) | skip
  all_goals
    cases e
    exact ⟨h, rfl⟩
theorem flatsD_den {G : Hp} {ρ : List Addr} : ∀ {ds : List D} {us vs : List V}, flatsD ds = some us → DenL C G ρ ds vs → vs = us ∧ us.all flatV = true
  | [], us, vs, e, h => by
    cases e
    simp only [DenL] at h
    exact ⟨h, rfl⟩
  | d :: ds, us, vs, e, h => by
    simp only [DenL] at h
    obtain ⟨v, r, rfl, h1, h2⟩ := h
    obtain ⟨u, e1, e2⟩ := Option.bind_eq_some_iff.mp e
    obtain ⟨ws, e3, rfl⟩ := Option.map_eq_some_iff.mp e2
    obtain ⟨rfl, f1⟩ := flatD_den e1 h1
    obtain ⟨rfl, f2⟩ := flatsD_den e3 h2
    exact ⟨rfl, by simp [f1, f2]⟩
def inM (x y : D) : M Bool := match y with
  | .str z => (match x with
    | .str t => (match t.cps.toList with
      | [n] => pure (decide (n ∈ z.cps.toList))
      | _ => mStuck)
    | _ => mStuck)
  | y => rdS y >>= fun ds => optM (flatD x) >>= fun u => optM (flatsD ds) >>= fun us => pure (inV u us)
def oIn (x y : D) : M D := inM x y >>= fun b => pure (.bl b)
def oNotIn (x y : D) : M D := inM x y >>= fun b => pure (.bl (!b))
def rInU (K : PySem.W.Frag) (neg : Bool) : R2 := fun x y H Q => rIn K neg x y H Q ∨ ∃ (c : Nat) (z : Str), x = .str ⟨#[c]⟩ ∧ y = .str z ∧ Q (.bl (if neg then !decide (c ∈ z.cps.toList) else decide (c ∈ z.cps.toList))) H
theorem op_inU : OpR X (compareOp .In) (rInU X.K false) := op_in_seq.or op_in_sign
theorem op_notInU : OpR X (compareOp .NotIn) (rInU X.K true) := op_notIn_seq.or op_notIn_sign
theorem s_inG (neg : Bool) : SimO C (rInU C.K neg) (fun x y => inM x y >>= fun b => pure (.bl (if neg then !b else b))) := by
  intro c x y v w Q E wf dx dy hF
  by_cases q : ∃ z, y = .str z
  · obtain ⟨z, rfl⟩ := q
    cases (show w = _ from dy)
    cases x <;> first | exact False.elim hF | skip
    rename_i t
    cases (show v = _ from dx)
    have hF' : Fn C c (((match t.cps.toList with
      | [n] => pure (decide (n ∈ z.cps.toList))
      | _ => mStuck : M Bool) >>= fun b => pure (.bl (if neg then !b else b))) c.s) (KD C Q) E := hF
    obtain ⟨⟨l⟩⟩ := t
    match l, hF' with
    | [], h => exact False.elim h
    | [n], h => exact .inr ⟨n, z, rfl, rfl, Fn.ok wf h _ rfl⟩
    | _ :: _ :: _, h => exact False.elim h
  · have e0 : inM x y = (rdS y >>= fun ds => (optM (flatD x) : M V) >>= fun u => (optM (flatsD ds) : M (List V)) >>= fun us => (pure (inV u us) : M Bool)) := by
      cases y <;> first | rfl | exact absurd ⟨_, rfl⟩ q
    have hF' : Fn C c ((inM x y >>= fun b => (pure (.bl (if neg then !b else b)) : M D)) c.s) (KD C Q) E := hF
    rw [e0] at hF'
    simp only [bind_assoc'] at hF'
    obtain ⟨p, vs, ds, rfl, hq, l, h1⟩ := rdS_sim wf dy hF'
    obtain ⟨u, e1, h2⟩ := Fn.optM h1
    obtain ⟨us, e2, h3⟩ := Fn.optM h2
    obtain ⟨rfl, f1⟩ := flatD_den e1 dx
    obtain ⟨rfl, f2⟩ := flatsD_den e2 l
    exact .inl ⟨p, vs, rfl, hq, f1, f2, Fn.ok wf h3 _ rfl⟩
theorem s_in : SimO C (rInU C.K false) oIn := s_inG false
theorem s_notIn : SimO C (rInU C.K true) oNotIn := s_inG true
/-! ### is True, is False -/
def oIsB (x y : D) : M D := match x, y with
  | .bl a, .bl b => pure (.bl (a == b))
  | _, _ => mStuck
def oIsNotB (x y : D) : M D := match x, y with
  | .bl a, .bl b => pure (.bl (!(a == b)))
  | _, _ => mStuck
def rIsB (neg : Bool) : R2 := fun x y H Q => ∃ a b, x = .bl a ∧ y = .bl b ∧ Q (.bl (if neg then !(a == b) else a == b)) H
theorem op_isB : OpR X (compareOp .Is) (rIsB false) := by
  intro pins s σ H x y v u Q I rx ry h
  obtain ⟨a, b, rfl, rfl, q⟩ := h
  cases rx
  cases ry
  exact is_bool (fin_bl I q rfl)
theorem op_isNotB : OpR X (compareOp .IsNot) (rIsB true) := by
  intro pins s σ H x y v u Q I rx ry h
  obtain ⟨a, b, rfl, rfl, q⟩ := h
  cases rx
  cases ry
  exact isnot_bool (fin_bl I q rfl)
theorem s_isB : SimO C (rIsB false) oIsB := by
  intro c x y v w Q E wf dx dy hF
  cases x <;> first | exact False.elim hF | skip
  cases y <;> first | exact False.elim hF | skip
  exact ⟨_, _, dx, dy, Fn.ok wf hF _ rfl⟩
theorem s_isNotB : SimO C (rIsB true) oIsNotB := by
  intro c x y v w Q E wf dx dy hF
  cases x <;> first | exact False.elim hF | skip
  cases y <;> first | exact False.elim hF | skip
  exact ⟨_, _, dx, dy, Fn.ok wf hF _ rfl⟩
end
end DL
set_option Elab.async false
set_option linter.all false
set_option maxRecDepth 100000
set_option maxHeartbeats 2000000
namespace DL
open PySem L2
open PyProof.Rows hiding St
/-! ### isinstance with a built-in type -/
inductive Ty0 where
  | non | bl | int | str | tup | lst | dct
  deriving DecidableEq
def Ty0.name : Ty0 → String
  | .non => "NoneType" | .bl => "bool" | .int => "int" | .str => "str" | .tup => "tuple" | .lst => "list" | .dct => "dict"
def Ty0.le : Ty0 → Ty0 → Bool
  | .bl, .int => true
  | a, b => decide (a = b)
theorem Ty0.kit (a b : Ty0) : kitB a.name b.name = some (a.le b) := by
  cases a <;> cases b <;> decide +kernel
/-- a value's built-in type, or its own class -/
inductive TyD where
  | bi (t : Ty0) | own (k : Nat)
def tyM : D → M TyD
  | .non => pure (.bi .non)
  | .bl _ => pure (.bi .bl)
  | .int _ => pure (.bi .int)
  | .str _ => pure (.bi .str)
  | .tup _ => pure (.bi .tup)
  | .lst _ | .scr _ => pure (.bi .lst)
  | .dct _ => pure (.bi .dct)
  | .loc n => fun s => match s[n]? with
    | some (some (.lst _)) => .ok (.bi .lst) s
    | some (some (.dct _)) => .ok (.bi .dct) s
    | some (some (.ins k _)) => .ok (.own k) s
    | _ => .stuck
  | _ => mStuck
section
variable {X : Cx} {C : Ct} {c0 : Cf} {W : WX}
theorem sqL_ty {K : PySem.W.Frag} {H : Hp} {a : Addr} {xs : List V} (h : SqL K H a xs) : TyX K H (.ref a) (.type "list") := by
  rcases h with (h | ⟨o, h⟩) | ⟨o, its, m, h, hc, _⟩
  · exact .base (.lst h)
  · exact .base (.frz h)
  · exact .kList h hc
theorem sqT_ty {K : PySem.W.Frag} {H : Hp} {a : Addr} {xs : List V} (h : SqT K H a xs) : TyX K H (.ref a) (.type "tuple") := by
  rcases h with (h | ⟨o, h⟩) | ⟨o, its, m, h, hc, _⟩
  · exact .base (.tup h)
  · exact .fTuple h
  · exact .kTuple h hc
/-- what the own classes' instances ask -/
structure InsT (K : PySem.W.Frag) (A : Addr) : Prop where
  cl : Cls K A
  ha : PySem.W.findIn K (.ref A) "__class__" = some (some (.builtin "object.__class__"))
  hn : PySem.W.specialIn K (.builtin "object.__class__") "__get__" = some (some (.builtin "getset_descriptor.__get__"))
  ht : PySem.W.takesIn K (.builtin "object.__class__") = some true
  hm : PySem.W.mroIn K A (.type "object") = some true
theorem tyM_sim {c : Cf} {d : D} {v : V} {β : Type} {f : TyD → M β} {K : β → Cf → Prop} {E : XK} (w : WF C c) (dn : Den C c.G c.ρ d v) (h : Fn C c ((tyM d >>= f) c.s) K E) :
    (∃ t, TyX C.K c.H v (.type (Ty0.name t)) ∧ Fn C c (f (.bi t) c.s) K E) ∨ ∃ k a dx gs, v = .ref a ∧ c.H a = some (.ins (C.ca k) dx gs) ∧ Fn C c (f (.own k) c.s) K E := by
  cases d <;> first | exact False.elim h | skip
  · cases (show v = _ from dn); exact .inl ⟨.non, .base .non, h⟩
  · cases (show v = _ from dn); exact .inl ⟨.bl, .base (.bl _), h⟩
  · cases (show v = _ from dn); exact .inl ⟨.int, .base (.int _), h⟩
  · cases (show v = _ from dn); exact .inl ⟨.str, .base (.str _), h⟩
  · obtain ⟨a, vs, rfl, ha, l⟩ := dn; exact .inl ⟨.tup, sqT_ty (w.ext.sqt ha), h⟩
  · obtain ⟨a, vs, rfl, ha, l⟩ := dn; exact .inl ⟨.lst, .base (.lst (w.ext _ _ ha)), h⟩
  · obtain ⟨a, vs, rfl, ha, l⟩ := dn; exact .inl ⟨.dct, .base (.dK (w.ext _ _ ha)), h⟩
  · obtain ⟨a, rfl, ha⟩ := dn; exact .inl ⟨.lst, sqL_ty (w.ext.sql ha), h⟩
  · rename_i n
    obtain ⟨a, rfl, ha⟩ := dn
    have h' : Fn C c (R.bind (match c.s[n]? with
      | some (some (.lst _)) => .ok (.bi .lst) c.s
      | some (some (.dct _)) => .ok (.bi .dct) c.s
      | some (some (.ins k _)) => .ok (.own k) c.s
      | _ => .stuck) f) K E := h
    cases q : c.s[n]? with
    | none => rw [q] at h'; exact False.elim h'
    | some o =>
      cases o with
      | none => rw [q] at h'; exact False.elim h'
      | some o =>
        obtain ⟨b, ho, r1, r2, r3, r4⟩ := w.cel n o q
        rw [ha] at r1
        cases r1
        rw [q] at h'
        cases o with
        | lst ds => obtain ⟨vs, rfl, l⟩ := r4; exact .inl ⟨.lst, .base (.lst r3), h'⟩
        | dct ds => obtain ⟨vs, rfl, l⟩ := r4; exact .inl ⟨.dct, .base (.dK r3), h'⟩
        | ins k fs => obtain ⟨dx, gs, rfl, g, l⟩ := r4; exact .inr ⟨k, a, dx, gs, rfl, r3, h'⟩
        | lk _ => exact False.elim h'
/-- isinstance(e, T) -/
def oIsT (sub : Nat → Option Bool) (b : Ty0) (d : D) : M D := tyM d >>= fun t => match t with
  | .bi a => pure (.bl (a.le b))
  | .own k => optM (sub k) >>= fun r => pure (.bl r)
def eIsT (sub : Nat → Option Bool) (b : Ty0) (m : LE → M D) : LE → M D := fun env => m env >>= oIsT sub b
/-- which own classes' instances are instances of cv -/
structure SubT (K : PySem.W.Frag) (C : Ct) (cv : Value) (sub : Nat → Option Bool) : Prop where
  ex : ∀ k r, sub k = some r → InsT K (C.ca k) ∧ PySem.W.kitOne K (.ref (C.ca k)) cv = some r
def noSub : Nat → Option Bool := fun _ => none
theorem SubT.no {K : PySem.W.Frag} {C : Ct} {cv : Value} : SubT K C cv noSub := ⟨fun k r h => by cases h⟩
theorem se_isT {x : Str} {e : Expr} {m : LE → M D} {sub : Nat → Option Bool} {p p2 pos : Pos} (b : Ty0) (hm : X.mg "isinstance" = none) (hmx : X.mg x = none) (st : SubT X.K C (.type b.name) sub) (h : SE X C W e m) (hK : X.K = C.K := by rfl) (hv : bootBuiltins x = some (.type b.name) := by rfl) (hg : Gl X "isinstance" := by rfl) (hgx : Gl X x := by rfl)
    (hn : x ≠ "__name__" := by decide) (hdb : (x == ("__debug__" : Str)) = false := by decide) (he : starEach (e :: [.Name x p2]) X.env = (false, eval e X.env) :: starEach [.Name x p2] X.env := by rfl) (he2 : starEach (.Name x p2 :: []) X.env = (false, eval (.Name x p2) X.env) :: starEach [] X.env := by rfl)
    (hpl : (backTo pos (starEach [.Name x p2] X.env)).any (·.1) = false := by rfl) : SE X C W (.Call (.Name "isinstance" p) [e, .Name x p2] [] pos) (eIsT sub b m) := by
  obtain ⟨t, pe, se⟩ := h.out
  refine ⟨_, pe_callB call_isi hg hm (by rfl) (pa_cons pe (pa_cons (pe_bltn (v := .ty b.name) hgx hmx hv rfl hn hdb) pa_nil he2) he) (by decide) (by decide) he hpl, fun env σ c Q hR hF => ?_⟩
  refine se env σ c _ hR (Fn.bind hF fun d c1 e1 w1 hF1 v dn => ?_)
  rcases tyM_sim w1 dn hF1 with ⟨t, ty, h2⟩ | ⟨k, a, dx, gs, rfl, ha, h2⟩
  · exact ⟨v, .ty b.name, _, _, _, rfl, .ty _, by rw [hK]; exact ty, kit_ty (t.kit b), Fn.ok w1 h2 _ rfl⟩
  · obtain ⟨r, er, h3⟩ := Fn.optM h2
    obtain ⟨it, ek⟩ := st.ex k r er
    exact ⟨_, .ty b.name, _, _, _, rfl, .ty _, .base (.ins ha it.cl it.ha it.hn it.ht it.hm), ek, Fn.ok w1 h3 _ rfl⟩
/-- isinstance(e, X), X an own class -/
def oIsC (no : Bool) (sub : Nat → Option Bool) (d : D) : M D := tyM d >>= fun t => match t with
  | .bi a => guardM no >>= fun _ => pure (.bl false)
  | .own k => optM (sub k) >>= fun r => pure (.bl r)
def eIsC (sub : Nat → Option Bool) (m : LE → M D) : LE → M D := fun env => m env >>= oIsC true sub
theorem se_isC {x : Str} {A : Addr} {e : Expr} {m : LE → M D} {sub : Nat → Option Bool} {p p2 pos : Pos} (hm : X.mg "isinstance" = none) (hmx : X.mg x = some (.ref A)) (st : SubT X.K C (.ref A) sub) (no : ∀ a : Ty0, PySem.W.kitOne X.K (.type a.name) (.ref A) = some false) (h : SE X C W e m) (hK : X.K = C.K := by rfl) (hg : Gl X "isinstance" := by rfl) (hgx : Gl X x := by rfl)
    (hdb : (x == ("__debug__" : Str)) = false := by decide) (he : starEach (e :: [.Name x p2]) X.env = (false, eval e X.env) :: starEach [.Name x p2] X.env := by rfl) (he2 : starEach (.Name x p2 :: []) X.env = (false, eval (.Name x p2) X.env) :: starEach [] X.env := by rfl)
    (hpl : (backTo pos (starEach [.Name x p2] X.env)).any (·.1) = false := by rfl) : SE X C W (.Call (.Name "isinstance" p) [e, .Name x p2] [] pos) (eIsC sub m) := by
  obtain ⟨t, pe, se⟩ := h.out
  refine ⟨_, pe_callB call_isi hg hm (by rfl) (pa_cons pe (pa_cons (pe_glob (v := .ref A) hgx hmx rfl hdb) pa_nil he2) he) (by decide) (by decide) he hpl, fun env σ c Q hR hF => ?_⟩
  refine se env σ c _ hR (Fn.bind hF fun d c1 e1 w1 hF1 v dn => ?_)
  rcases tyM_sim w1 dn hF1 with ⟨t, ty, h2⟩ | ⟨k, a, dx, gs, rfl, ha, h2⟩
  · obtain ⟨_, h3⟩ := Fn.guard h2
    exact ⟨v, .ref A, _, _, _, rfl, .own _, by rw [hK]; exact ty, no t, Fn.ok w1 h3 _ rfl⟩
  · obtain ⟨r, er, h3⟩ := Fn.optM h2
    obtain ⟨it, ek⟩ := st.ex k r er
    exact ⟨_, .ref A, _, _, _, rfl, .own _, .base (.ins ha it.cl it.ha it.hn it.ht it.hm), ek, Fn.ok w1 h3 _ rfl⟩
end
end DL
set_option Elab.async false
set_option linter.all false
set_option maxRecDepth 100000
set_option maxHeartbeats 4000000
/-! # isinstance of a caught error that has a dict -/
namespace PySem.ErrX
open PySem PySem.Spec PySem.Calls PyProof.Rows PySem.W
section
variable {prog : Program} {w : World} {A : Around} {E : Value → Shared → Prop} {s : Shared} {K : Frag} {x D : Addr} {ox od : Obj}
/-- what an own error's class must say -/
structure ErrIs (K : Frag) (D : Addr) : Prop where
  ga : findIn K (.ref D) "__getattribute__" = some (some (.builtin "BaseException.__getattribute__"))
  gt : findIn K (.ref D) "__getattr__" = some none
  sb : subIn K (.ref D) (.type "BaseException") = some true
  hd : hasDictIn K D = true
  ac : findIn K (.ref D) "__class__" = some (some (.builtin "object.__class__"))
  sn : specialIn K (.builtin "object.__class__") "__get__" = some (some (.builtin "getset_descriptor.__get__"))
  tk : takesIn K (.builtin "object.__class__") = some true
  mo : mroIn K D (.type "object") = some true
theorem err_class {Q : Option Value → Shared → Prop} (F : ErrIs K D) (X : K.In s.heap) (I : InstAt s.heap x ox D (some od)) (h : Q (some (.ref D)) { s with toks := s.toks + 1 }) : wpAny (model prog w) A (getAttr? (.ref x) "__class__") Q E s := by
  have isC : (clsIn K D).isSome = true := (any_some F.hd).elim fun cd q => by rw [q.1]; rfl
  have ff : findObj K D (some od) "__class__" = some (.bind (.builtin "getset_descriptor.__get__") (.builtin "object.__class__")) := findObj_data isC F.ac F.sn F.tk
  obtain ⟨hp, g, d, t, os⟩ := s
  have T0 := I.type (M := model prog w)
  have T1 := looks_findIn (M := model prog w) X F.ga
  have T2 := looks_findIn (M := model prog w) X F.gt
  have T3 := looks_find (M := model prog w) X I ff
  have sub : Looks (model prog w) hp (isInstance (.ref x) (.type "BaseException")) true := T0.andThen (looks_subIn X F.sb)
  have n0 : (false && onTheHeap (Value.builtin "BaseException.__getattribute__")) = false := rfl
  have n2 : (Value.builtin "BaseException.__getattribute__" == Value.builtin "object.__getattribute__") = false := by decide +kernel
  have n1 : (onTheHeap (Value.ref D) && Value.builtin "BaseException.__getattribute__" == Value.builtin "object.__getattribute__") = false := by rw [n2] <;> rfl
  unfold getAttr? getAttrBy? getAttrBy
  refine wpAny_bind (wpAny_mkText (wpAny_bind (wpAny_attempt (wpAny_holding (wpAny_bind (T0.at (wpAny_bind (T1.at ?_))))))))
  show wpAny _ _ (if (onTheHeap (Value.ref D) && Value.builtin "BaseException.__getattribute__" == Value.builtin "object.__getattribute__") = true then _ else _) _ _ _
  rw [n1, if_neg (by decide : ¬ (false = true))]; unfold getAttrByItsOwn hookBefore
  refine wpAny_bind ?_; rw [if_pos (show onTheHeap (Value.ref D) = true from rfl)]
  refine T2.at ?_; refine wpAny_bind (wpAny_attempt (wpAny_holding ?_))
  unfold callGetattribute; rw [n0, if_neg (by decide : ¬ (false = true))]
  unfold boundAndCalled; rw [PySem.F.excAttr_ValueError.ga.bind (.ref x)]
  refine wpAny_bind (wpAny_pure ?_); show wpAny _ _ (call (.builtin "BaseException.__getattribute__") [.ref x, .str "__class__" t]) _ _ _
  refine wpAny_call (codeAny_call_builtin PySem.F.excAttr_ValueError.ga.plain PySem.F.entry_bexc_ga ?_)
  refine @check_slot (model prog w) _ _ ⟨hp, g, d, t + 1, os⟩ "BaseException.__getattribute__" "BaseException" "__getattribute__" (.ref x) [.str "__class__" t] [] _ (by decide +kernel) (by decide +kernel) sub (PySem.F.args_bexc_ga _ _) ?_
  unfold Builtin.«object.__getattribute__»
  refine wpAny_bind (wpAny_of_eq (a := ((Value.ref x : Value), [Value.str "__class__" t])) (by first | rfl | (simp only [slotArgs] <;> rfl)) ?_)
  refine wpAny_bind (wpAny_pure (wpAny_bind (T0.at (wpAny_bind (T3.at ?_)))))
  show wpAny _ _ (holding [Value.builtin "object.__class__"] (call (.builtin "getset_descriptor.__get__") [.builtin "object.__class__", .ref x, .ref D]) >>= ret) _ _ _
  refine wpAny_bind (wpAny_holding (wpAny_call (class_get (s := ⟨hp, g, d, t + 1, os⟩) (ox := ox) (od := some od) X I F.mo ?_)))
  refine wpAny_pure ?_; show wpAny _ _ (handedOut (.ref D)) _ _ _
  rw [handedOut_of (v := .ref D) rfl]
  first | exact wpAny_pure (wpAny_pure h) | exact wpAny_pure h | exact wpAny_pure (wpAny_bind (wpAny_pure (wpAny_pure h)))
theorem err_kit (F : ErrIs K D) : KitX K (.ref x) (.ref D) (fun h => ∃ ox od, InstAt h x ox D (some od)) where
  ty := fun _ _ _ ⟨_, _, I⟩ => I.type
  it := fun _ _ X _ => by
    obtain ⟨cdD, hcD, _⟩ := any_some F.hd; unfold clsIn at hcD
    split at hcD
    · rename_i c' d' cd' sl ho
      intro A' Q' E' s' k q; unfold isType loadHead
      exact wpAny_bind (wpAny_loadPart (k _ _ (X _ _ ho)) (wpAny_pure q))
    · cases hcD
  ne := fun h tp dd its n sl X htp => by
    obtain ⟨cdD, hcD, _⟩ := any_some F.hd; refine Bool.eq_false_iff.mpr fun q => ?_
    have e : D = tp := Value.ref.inj (beq_iff_eq.mp q); subst e; unfold clsIn at hcD
    split at hcD
    · rename_i c' d' cd' sl ho
      cases (X _ _ ho).symm.trans htp
    · cases hcD
  ca := fun X ⟨_, _, I⟩ k => err_class F X I k
end
end PySem.ErrX
namespace DL
open PySem L2
open PyProof.Rows hiding St
/-- isinstance(e, c), e the error that the suite holds -/
def rIsErr (K : PySem.W.Frag) (D a dd : Addr) : List V → Hp → VK → Prop := fun xs H Q => ∃ (c : V) (cv : Value) (b : Bool) (fs : List (Str × V)), xs = [.ref a, c] ∧ H dd = some (.xd fs) ∧ ClsV c cv ∧ PySem.W.kitOne K (.ref D) cv = some b ∧ Q (.bl b) H
theorem call_isErr {X : Cx} {a D dd : Addr} {oe : Obj} {pn : List (Addr × Obj)} (F : PySem.ErrX.ErrIs X.K D) (hz : Zc (.ref D) (some dd) oe) (hf : ∃ vs, oe.data = .fields vs) : CallR (X.suite a ((a, oe) :: pn)) (.builtin "isinstance") (rIsErr X.K D a dd) := by
  intro pins s σ H xs us Q I r h
  obtain ⟨c, cv, b, fs, rfl, hx, hcv, e, q⟩ := h
  obtain ⟨u1, u2, rfl, rx, rt⟩ := vals2 r
  cases rx
  cases hcv.eq rt
  obtain ⟨hget, _⟩ := I.pin (a, oe) (List.mem_append.mpr (.inl List.mem_cons_self))
  obtain ⟨vs, hv⟩ := hf
  obtain ⟨mA, hns, _⟩ := (show ObjOk X.prog X.w H s.heap dd (.xd fs) from I.hok dd _ hx)
  obtain ⟨od, ho, _⟩ := lookIn_ns hns
  have J : PySem.W.InstAt s.heap a oe D (some od) := ⟨hget, hz.1, by unfold PySem.W.notCls; rw [hv] <;> rfl, by rw [hz.2]; exact ho⟩
  exact PySem.W.kia_one (PySem.ErrX.err_kit F) I.kIn ⟨_, _, J⟩ e (fun z => nomatch z) fun tk => ⟨.bl b, H, I.kept (t' := tk) fun _ _ z => z, rfl, q⟩
def oIsE (tb : Nat → Option Bool) : D → M D
  | .exn j _ => optM (tb j) >>= fun b => pure (.bl b)
  | _ => mStuck
def eIsE (tb : Nat → Option Bool) (m : LE → M D) : LE → M D := fun env => m env >>= oIsE tb
/-- the name of a class and what it means -/
structure ClsN (X : Cx) (x : Str) (cv : Value) : Prop where
  ev : ∀ {W : WX} {p : Pos}, ∃ c : V, ClsV c cv ∧ PE X (.Name x p) (tC c)
section
variable {X : Cx} {C : Ct} {c0 : Cf} {W : WX}
theorem clsN_own {x : Str} {A : Addr} (hm : X.mg x = some (.ref A)) (hg : Gl X x := by rfl) (hdb : (x == ("__debug__" : Str)) = false := by decide) : ClsN X x (.ref A) := ⟨⟨.ref A, .own A, pe_glob hg hm rfl hdb⟩⟩
theorem clsN_bi {x : Str} {T : String} (hm : X.mg x = none) (hv : bootBuiltins x = some (.type T) := by rfl) (hg : Gl X x := by rfl) (hn : x ≠ "__name__" := by decide) (hdb : (x == ("__debug__" : Str)) = false := by decide) : ClsN X x (.type T) := ⟨⟨.ty T, .ty T, pe_bltn hg hm hv rfl hn hdb⟩⟩
/-- which own errors are of cv -/
structure Tb (K : PySem.W.Frag) (C : Ct) (cv : Value) (tb : Nat → Option Bool) : Prop where
  ex : ∀ j b, tb j = some b → PySem.W.kitOne K (.ref (C.ca j)) cv = some b
theorem se_isE {x : Str} {cv : Value} {a : Addr} {j : Nat} {dx : Addr} {oe : Obj} {pn : List (Addr × Obj)} {e : Expr} {m : LE → M D} {tb : Nat → Option Bool} {p p2 pos : Pos} (hm : X.mg "isinstance" = none) (F : PySem.ErrX.ErrIs X.K (C.ca j)) (T : Tb X.K C cv tb) (N : ClsN (X.suite a ((a, oe) :: pn)) x cv)
    (hz : Zc (.ref (C.ca j)) (some dx) oe) (hf : ∃ vs, oe.data = .fields vs) (h : SE (X.suite a ((a, oe) :: pn)) (C.up (a, C.ca j, dx)) W e m) (hg : Gl X "isinstance" := by rfl)
    (he : starEach (e :: [.Name x p2]) X.env = (false, eval e X.env) :: starEach [.Name x p2] X.env := by rfl) (he2 : starEach (.Name x p2 :: []) X.env = (false, eval (.Name x p2) X.env) :: starEach [] X.env := by rfl)
    (hpl : (backTo pos (starEach [.Name x p2] X.env)).any (·.1) = false := by rfl) : SE (X.suite a ((a, oe) :: pn)) (C.up (a, C.ca j, dx)) W (.Call (.Name "isinstance" p) [e, .Name x p2] [] pos) (eIsE tb m) := by
  obtain ⟨t, pe, se⟩ := h.out
  obtain ⟨c, cc, pn'⟩ := N.ev (W := W) (p := p2)
  refine ⟨_, pe_callB (X := X.suite a ((a, oe) :: pn)) (call_isErr F hz hf) hg hm (by rfl) (pa_cons pe (pa_cons pn' pa_nil he2) he) (by decide) (by decide) he hpl, fun env σ c1 Q hR hF => ?_⟩
  refine se env σ c1 _ hR (Fn.bind hF fun d c2 e1 w1 hF1 v dn => ?_)
  cases d <;> first | exact False.elim hF1 | skip
  rename_i k fs
  simp only [Den] at dn
  obtain ⟨a', dx', gs, rfl, q, g, l⟩ := dn
  simp only [Ct.up, Option.some.injEq, Prod.mk.injEq] at q
  obtain ⟨rfl, q2, rfl⟩ := q
  obtain ⟨b, eb, hF2⟩ := Fn.optM (show Fn (C.up (a, C.ca j, dx)) c2 ((optM (tb k) >>= fun b => pure (.bl b)) c2.s) (KD (C.up (a, C.ca j, dx)) Q) (fun a b H => W a b σ H) from hF1)
  exact ⟨_, cv, b, gs, rfl, w1.ext _ _ g, cc, by rw [q2]; exact T.ex k b eb, Fn.ok w1 hF2 _ rfl⟩
end
end DL
set_option Elab.async false
set_option linter.all false
set_option maxRecDepth 100000
set_option maxHeartbeats 2000000
/-! # More statements; texts; a module's dict -/
namespace DL
open PySem L2
open PyProof.Rows hiding St
section
variable {X : Cx} {C : Ct} {c0 : Cf} {W : WX}
/-! ### a, b = x, y -/
def sPar (i j : Nat) (m : LE → M (List D)) : SM := sE m fun ds env s => match ds with
  | [d, e] => some (.nx ((env.set i (some (.val d))).set j (some (.val e))), s)
  | _ => none
theorem s1_par (i j : Nat) {x y : Str} {a b : Expr} {m : LE → M (List D)} {px py pt pos : Pos} {kt k2 pt2} (h : SA X C W [a, b] m) (hN : X.N.Nodup) (hw : swappedStores [.Tuple [.Name x px, .Name y py] kt pt] (.Tuple [a, b] k2 pt2) X.env = pure (some [x, y])) (hc : X.calm = true := by rfl) (hi : X.N[i]? = some x := by rfl) (hj : X.N[j]? = some y := by rfl) (hij : i ≠ j := by decide)
    (hx : X.env.scope.names.lookup x = some .local := by rfl) (hy : X.env.scope.names.lookup y = some .local := by rfl) (hs : swapsWithSole [.Tuple [.Name x px, .Name y py] kt pt] (.Tuple [a, b] k2 pt2) pos.line X.env = pure false := by rfl) :
    SS1 X C c0 W (.Assign [.Tuple [.Name x px, .Name y py] kt pt] (.Tuple [a, b] k2 pt2) pos) (sPar i j m) := by
  obtain ⟨t, p, s⟩ := h.out
  refine ⟨_, ps_par hc hN hi hj hij hx hy p hw hs, fun env σ c E hR hF => s env σ c _ hR.rl (hF.fn hR fun ds c' x w hR' hF' vs dn => ?_)⟩
  match ds, dn, hF' with
  | [], _, hF => exact False.elim hF
  | [_], _, hF => exact False.elim hF
  | [d, e], dn, hF =>
    obtain ⟨v, u, rfl, h1, h2⟩ := den2 dn
    exact ⟨v, u, rfl, hF _ c' rfl ((hR'.set h1).set h2) (Since.refl _)⟩
  | _ :: _ :: _ :: _, _, hF => exact False.elim hF
/-! ### o[i] = e, o a list in a cell -/
def setIx (o i d : D) (s : S) : Option S := match o, i with
  | .loc n, .int k => (match s[n]? with
    | some (some (.lst ds)) => (ixN ds.length k).map fun j => s.set n (some (.lst (ds.set j d)))
    | _ => none)
  | _, _ => none
def sSetIx (mo mi me : LE → M D) : SM := sE me fun d => sE mo fun o => sE mi fun i env s => (setIx o i d s).map fun s' => (.nx env, s')
theorem s1_setix {o i e : Expr} {mo mi me : LE → M D} {pt pos : Pos} (ho : SE X C W o mo) (hi : SE X C W i mi) (he : SE X C W e me)
    (ha : ∀ v, assign (.Subscript o i pt) X.env v = (do
      let ov ← holding [v] (eval o X.env)
      let iv ← holding [v, ov] (eval i X.env)
      standAt pt
      holding [v, ov, iv] (setItem ov iv v)
      release [v, ov, iv] []) := by intro _; rfl)
    (hs : swapsWithSole [.Subscript o i pt] e pos.line X.env = pure false := by rfl) (hw : swappedStores [.Subscript o i pt] e X.env = pure none := by rfl)
    (h1 : (assignEach [.Subscript o i pt] X.env).map (·.2) = [assign (.Subscript o i pt) X.env] := by rfl) :
    SS1 X C c0 W (.Assign [.Subscript o i pt] e pos) (sSetIx mo mi me) := by
  obtain ⟨to, po, so⟩ := ho.out
  obtain ⟨ti, pi, si⟩ := hi.out
  obtain ⟨te, pe, se⟩ := he.out
  refine ⟨_, ps_asg pe (pg_sub po pi set_list ha) hs hw h1, fun env σ c E hR hF => ?_⟩
  refine se env σ c _ hR.rl (hF.fn hR fun d c1 x1 w1 hR1 hF1 v dn => ?_)
  refine so env σ c1 _ hR1.rl (hF1.fn hR1 fun od c2 x2 w2 hR2 hF2 ov don => ?_)
  refine si env σ c2 _ hR2.rl (hF2.fn hR2 fun id c3 x3 w3 hR3 hF3 iv din => ?_)
  cases od <;> first | exact False.elim hF3 | skip
  rename_i n
  cases id <;> first | exact False.elim hF3 | skip
  rename_i k
  cases (show iv = _ from din)
  have h3 : FS C c0 c3 W E ((match c3.s[n]? with
    | some (some (.lst ds)) => (ixN ds.length k).map fun j => c3.s.set n (some (.lst (ds.set j d)))
    | _ => none).map fun s' => (.nx env, s')) := hF3
  have don3 := don.mono x3.g x3.pre
  obtain ⟨a, rfl, ha3⟩ := don3
  cases q : c3.s[n]? with
  | none => rw [q] at h3; exact False.elim h3
  | some oo =>
    cases oo with
    | none => rw [q] at h3; exact False.elim h3
    | some oo =>
      rw [q] at h3
      cases oo with
      | dct _ => exact False.elim h3
      | ins _ _ => exact False.elim h3
      | lk _ => exact False.elim h3
      | lst ds =>
        obtain ⟨a', hob, r1, r2, r3, vs, rfl, l⟩ := w3.cel n _ q
        rw [ha3] at r1
        cases r1
        cases ej : ixN ds.length k with
        | none => simp only [ej] at h3; exact False.elim h3
        | some j =>
          simp only [ej] at h3
          have dn3 := (dn.mono x2.g x2.pre).mono x3.g x3.pre
          obtain ⟨w4, e4⟩ := w3.cell (o' := .lst (ds.set j d)) (ho' := .lst (vs.set j v)) q ha3 ⟨_, rfl, DenL.set dn3 j l⟩
          exact ⟨a, vs, k, j, rfl, rfl, r3, by rw [l.length]; exact ej, h3 σ ⟨_, _, _, _⟩ rfl (hR3.step e4 w4) e4.since⟩
/-! ### l.clear(), l a list in a cell -/
def clearM : D → M D
  | .loc n => fun s => match s[n]? with
    | some (some (.lst _)) => .ok .non (s.set n (some (.lst [])))
    | _ => .stuck
  | _ => mStuck
def eClear (m : LE → M D) : LE → M D := fun env => m env >>= clearM
theorem se_clear {o : Expr} {m : LE → M D} {apos cpos : Pos} (h : SE X C W o m) (hbase : attributeBase o "clear" X.env (eval o X.env) = eval o X.env := by rfl) (hline : (apos.endLine == cpos.line) = true := by rfl) : SE X C W (.Call (.Attribute o "clear" apos) [] [] cpos) (eClear m) := by
  obtain ⟨t, p, s⟩ := h.out
  refine ⟨_, pe_bm0 PySem.F.plainAttrs_list PySem.F.slot_list_clear PySem.F.type_list_clear mt_clear p hbase hline, fun env σ c Q hR hF => ?_⟩
  refine s env σ c _ hR (Fn.bind hF fun d c1 e1 w1 hF1 v dn => ?_)
  cases d <;> first | exact False.elim hF1 | skip
  rename_i n
  obtain ⟨a, rfl, ha⟩ := dn
  have h' : Fn C c1 (match c1.s[n]? with
    | some (some (.lst _)) => R.ok D.non (c1.s.set n (some (.lst [])))
    | _ => .stuck) (KD C Q) (fun a b H => W a b σ H) := hF1
  cases q : c1.s[n]? with
  | none => rw [q] at h'; exact False.elim h'
  | some oo =>
    cases oo with
    | none => rw [q] at h'; exact False.elim h'
    | some oo =>
      rw [q] at h'
      cases oo with
      | dct _ => exact False.elim h'
      | ins _ _ => exact False.elim h'
      | lk _ => exact False.elim h'
      | lst ds =>
        obtain ⟨a', hob, r1, r2, r3, vs, rfl, l⟩ := w1.cel n _ q
        rw [ha] at r1
        cases r1
        obtain ⟨w4, e4⟩ := w1.cell (o' := .lst []) (ho' := .lst []) q ha ⟨_, rfl, .nil⟩
        exact ⟨.inl ⟨rfl, _, SqL.of r3⟩, a, vs, rfl, rfl, r3, h' ⟨_, _, _, _⟩ rfl e4 w4 _ rfl⟩
/-! ### an owned container becomes a cell (nothing happens) -/
def toLoc (i : Nat) (env : LE) (s : S) : LE × S := match env[i]? with
  | some (some (.own o)) => (env.set i (some (.val (.loc s.length))), s ++ [some o])
  | _ => (env, s)
theorem RlS.toLoc {env : LE} {σ : L2.St} {c : Cf} (i : Nat) (h : RlS C c0 env σ c) : ∃ ρ, RlS C c0 (toLoc i env c.s).1 σ ⟨c.H, c.G, ρ, (toLoc i env c.s).2⟩ ∧ Pre c.ρ ρ := by
  have same : ∃ ρ, RlS C c0 env σ ⟨c.H, c.G, ρ, c.s⟩ ∧ Pre c.ρ ρ := ⟨c.ρ, h, Pre.refl _⟩
  unfold DL.toLoc
  cases he : env[i]? with
  | none => exact same
  | some x =>
    cases x with
    | none => exact same
    | some sd =>
      cases sd with
      | val d => exact same
      | own o =>
        obtain ⟨a, ho, b1, b2, b3, b4, b5⟩ := h.rl.own i o he
        have w := h.rl.wf
        have hp : Pre c.ρ (c.ρ ++ [a]) := ⟨[a], rfl⟩
        have hat : (c.ρ ++ [a])[c.s.length]? = some a := by rw [← w.len]; simp
        have w2 : WF C ⟨c.H, c.G, c.ρ ++ [a], c.s ++ [some o]⟩ := by
          refine ⟨w.ext, by simp [w.len], ?_, fun x hx => ?_, fun m u q => ?_⟩
          · rw [List.nodup_append]
            refine ⟨w.nd, by simp, fun x hx y hy => ?_⟩
            have e : y = a := by simpa using hy
            subst e
            exact fun z => b3 (z ▸ hx)
          · rcases List.mem_append.mp hx with hx | hx
            · exact w.dom x hx
            · have e : x = a := by simpa using hx
              subst e
              show c.H x ≠ none
              rw [b4]; simp
          · by_cases hm : m < c.s.length
            · rw [List.getElem?_append_left hm] at q
              obtain ⟨x, hx, q1, q2, q3, q4⟩ := w.cel m u q
              exact ⟨x, hx, hp.get q1, q2, q3, q4.mono (Gr.refl _) hp⟩
            · have hml : m = c.s.length := by
                have := (List.getElem?_eq_some_iff.mp q).1
                simp at this
                omega
              subst hml
              simp at q
              subst q
              exact ⟨a, ho, hat, b2, b4, b5.mono (Gr.refl _) hp⟩
        refine ⟨c.ρ ++ [a], ⟨⟨w2, by simp [h.rl.len], fun j x q => ?_, fun j u q => ?_, fun j k u u' x q1 q2 q3 q4 => ?_⟩, ⟨h.ext.g, h.ext.fr, h.ext.kp, h.ext.dom, ?_, h.ext.lk⟩, fun j u x q1 q2 => ?_⟩, hp⟩
        · rcases get_set q with ⟨rfl, e', _⟩ | ⟨hj, q⟩
          · cases e'
            exact ⟨_, b1, a, rfl, hat⟩
          · obtain ⟨v, r1, r2⟩ := h.rl.val j x q
            exact ⟨v, r1, r2.mono (Gr.refl _) hp⟩
        · rcases get_set q with ⟨rfl, e', _⟩ | ⟨hj, q⟩
          · cases e'
          · obtain ⟨x, hx, r1, r2, r3, r4, r5⟩ := h.rl.own j u q
            refine ⟨x, hx, r1, r2, ?_, r4, r5.mono (Gr.refl _) hp⟩
            intro hm
            rcases List.mem_append.mp hm with hm | hm
            · exact r3 hm
            · have e : x = a := by simpa using hm
              subst e
              exact hj (h.rl.apart j i u o x q he r1 b1)
        · rcases get_set q1 with ⟨_, e', _⟩ | ⟨_, q1⟩
          · cases e'
          · rcases get_set q2 with ⟨_, e', _⟩ | ⟨_, q2⟩
            · cases e'
            · exact h.rl.apart j k u u' x q1 q2 q3 q4
        · obtain ⟨more, q, f⟩ := h.ext.pr
          refine ⟨more ++ [a], by show c.ρ ++ [a] = _; rw [q, List.append_assoc], fun x hx => ?_⟩
          rcases List.mem_append.mp hx with hx | hx
          · exact f x hx
          · have e : x = a := by simpa using hx
            subst e
            exact h.mine i o x he b1
        · rcases get_set q1 with ⟨_, e', _⟩ | ⟨_, q1⟩
          · cases e'
          · exact h.mine j u x q1 q2
def sLoc (i : Nat) (m : SM) : SM := fun env s => m (toLoc i env s).1 (toLoc i env s).2
theorem s1_loc (i : Nat) {st : Stmt} {m : SM} (h : SS1 X C c0 W st m) : SS1 X C c0 W st (sLoc i m) := by
  obtain ⟨t, p, s⟩ := h.out
  refine ⟨t, p, fun env σ c E hR hF => ?_⟩
  obtain ⟨ρ, h2, g2⟩ := hR.toLoc i
  exact s _ σ ⟨c.H, c.G, ρ, (toLoc i env c.s).2⟩ E h2 (FS.mono (b := c) (b' := ⟨c.H, c.G, ρ, (toLoc i env c.s).2⟩) ⟨Gr.refl _, g2, fun _ _ _ e => e⟩ hF)
/-! ### split, join -/
def strM : D → M Str
  | .str a => pure a
  | _ => mStuck
theorem Fn.strM {c : Cf} {d : D} {v : V} {β : Type} {f : Str → M β} {K : β → Cf → Prop} {E : XK} (dn : Den C c.G c.ρ d v) (h : Fn C c ((strM d >>= f) c.s) K E) : ∃ a, v = .str a ∧ Fn C c (f a c.s) K E := by
  cases d <;> first | exact False.elim h | skip
  cases (show v = _ from dn)
  exact ⟨_, rfl, h⟩
def nSplit (mo me : LE → M D) : LE → M O := fun env => mo env >>= fun x => strM x >>= fun a => me env >>= fun y => strM y >>= fun b => guardM (!(b.length == 0) && decide (a.length ≤ 1000000)) >>= fun _ => pure (.lst ((Txt.split a b).map .str))
theorem sn_split {o e : Expr} {mo me : LE → M D} {apos pos : Pos} (ho : SE X C W o mo) (he : SE X C W e me) (hs : starEach [e] X.env = [(false, eval e X.env)] := by rfl) (hbase : attributeBase o "split" X.env (eval o X.env) = eval o X.env := by rfl) (hline : (apos.endLine == pos.line) = true := by rfl) :
    SN X C W (.Call (.Attribute o "split" apos) [e] [] pos) (nSplit mo me) := by
  obtain ⟨to, po, so⟩ := ho.out
  obtain ⟨te, pe, se⟩ := he.out
  refine ⟨_, pe_split po pe hs hbase hline, fun env σ c Q hR hF => ?_⟩
  refine so env σ c _ hR (Fn.bind hF fun d c1 e1 w1 hF1 v dn => ?_)
  obtain ⟨a, rfl, hF1⟩ := Fn.strM dn hF1
  refine ⟨⟨a, rfl⟩, se env σ c1 _ (hR.ext e1 w1) (Fn.bind hF1 fun d2 c2 e2 w2 hF2 u dn2 => ?_)⟩
  obtain ⟨b, rfl, hF2⟩ := Fn.strM dn2 hF2
  obtain ⟨hz, hF3⟩ := Fn.guard hF2
  rw [Bool.and_eq_true] at hz
  refine ⟨a, b, rfl, rfl, by simpa using hz.1, Nat.le_trans (Nat.add_le_add_right (of_decide_eq_true hz.2) 2) (by decide), fun p hp => ?_⟩
  obtain ⟨w3, e3⟩ := lay_new (o := .lst ((Txt.split a b).map V.str)) w2 hp
  exact Fn.ok w3 (Fn.mono e3 hF3) p (.of (e1.trans e2) w2 hp ⟨_, rfl, denStrs _⟩)
def eJoin (mo me : LE → M D) : LE → M D := fun env => mo env >>= fun x => strM x >>= fun a => me env >>= fun y => rdS y >>= fun ds => optM (strsOf ds) >>= fun ys => guardM (decide ((ys.map (·.length)).sum + ys.length * a.length ≤ 16777216)) >>= fun _ => pure (.str (Txt.join a ys))
theorem se_join {o e : Expr} {mo me : LE → M D} {apos pos : Pos} (ho : SE X C W o mo) (he : SE X C W e me) (hK : X.K = C.K := by rfl) (hs : starEach [e] X.env = [(false, eval e X.env)] := by rfl) (hbase : attributeBase o "join" X.env (eval o X.env) = eval o X.env := by rfl) (hline : (apos.endLine == pos.line) = true := by rfl) :
    SE X C W (.Call (.Attribute o "join" apos) [e] [] pos) (eJoin mo me) := by
  obtain ⟨to, po, so⟩ := ho.out
  obtain ⟨te, pe, se⟩ := he.out
  refine ⟨_, pe_join po pe hs hbase hline, fun env σ c Q hR hF => ?_⟩
  refine so env σ c _ hR (Fn.bind hF fun d c1 e1 w1 hF1 v dn => ?_)
  obtain ⟨a, rfl, hF1⟩ := Fn.strM dn hF1
  refine ⟨⟨a, rfl⟩, se env σ c1 _ (hR.ext e1 w1) (Fn.bind hF1 fun d2 c2 e2 w2 hF2 u dn2 => ?_)⟩
  obtain ⟨p, vs, ds, rfl, hq, l, hF3⟩ := rdS_sim w2 dn2 hF2
  obtain ⟨ys, ey, hF4⟩ := Fn.optM hF3
  obtain ⟨hz, hF5⟩ := Fn.guard hF4
  cases strsOf_den ey l
  rw [hK]
  exact ⟨a, p, ys, rfl, rfl, hq, of_decide_eq_true hz, Fn.ok w2 hF5 _ rfl⟩
/-! ### {} -/
def nDct0 : LE → M O := fun _ => pure (.dct [])
theorem sn_dct0 {pos : Pos} : SN X C W (.Dict [] [] pos) nDct0 := by
  refine ⟨_, pe_dnewK, fun env σ c Q hR hF p hp => ?_⟩
  obtain ⟨w2, e2⟩ := lay_new (o := .dK []) hR.wf hp
  exact Fn.ok w2 (Fn.mono e2 hF) p (.of (Ext.refl c) hR.wf hp ⟨[], rfl, by simp only [DenK]⟩)
/-! ### a dict of the module, with text keys -/
inductive Ent (C : Ct) : List DictEntry → List (Str × D) → Prop where
  | nil : Ent C [] []
  | cons {e : DictEntry} {x : Str} {t : Tok} {d : D} {v : V} {es : List DictEntry} {tb : List (Str × D)} : e.key = .str x t → RelV v e.val → (∀ G ρ, Den C G ρ d v) → Ent C es tb → Ent C (e :: es) ((x, d) :: tb)
structure KdAt (K : PySem.W.Frag) (w : World) (C : Ct) (a : Addr) (tb : List (Str × D)) : Prop where
  at' : ∃ es n, KDict K w a es n ∧ Ent C es.toList tb
theorem Ent.nsIn {z : Str} : ∀ {es : List DictEntry} {tb : List (Str × D)}, Ent C es tb →
    (match es.find? (·.key.isStr z) with | some e => some (some e.val) | none => if es.any (·.refKey) then none else some none) = (match es.find? (·.key.isStr z) with | some e => some (some e.val) | none => some none) ∧
    (∀ d, lookF z tb = some d → ∃ e v, es.find? (·.key.isStr z) = some e ∧ RelV v e.val ∧ ∀ G ρ, Den C G ρ d v) ∧ (lookF z tb = none → es.find? (·.key.isStr z) = none)
  | _, _, .nil => ⟨rfl, fun d h => (nomatch h), fun _ => rfl⟩
  | e :: es, (x, d) :: tb, .cons hk hr hd rest => by
    obtain ⟨i1, i2, i3⟩ := Ent.nsIn (z := z) rest
    have hs : e.key.isStr z = (x == z) := by rw [hk] <;> rfl
    have hnr : e.refKey = false := by unfold DictEntry.refKey; rw [hk] <;> rfl
    by_cases q : z = x
    · subst q
      have h1 : e.key.isStr z = true := by rw [hs]; simp
      refine ⟨?_, fun d' h => ?_, fun h => ?_⟩
      · simp only [List.find?_cons, h1]
      · unfold lookF at h
        rw [if_pos rfl] at h
        cases h
        exact ⟨e, _, by simp only [List.find?_cons, h1], hr, hd⟩
      · unfold lookF at h
        rw [if_pos rfl] at h
        cases h
    · have h1 : e.key.isStr z = false := by rw [hs]; simpa using fun w => q w.symm
      refine ⟨?_, fun d' h => ?_, fun h => ?_⟩
      · simp only [List.find?_cons, h1, List.any_cons, hnr, Bool.false_or]
        exact i1
      · unfold lookF at h
        rw [if_neg q] at h
        simp only [List.find?_cons, h1]
        exact i2 d' h
      · unfold lookF at h
        rw [if_neg q] at h
        simp only [List.find?_cons, h1]
        exact i3 h
theorem KdAt.look {K : PySem.W.Frag} {w : World} {a : Addr} {tb : List (Str × D)} {es : Array DictEntry} {n : Nat} (D0 : KDict K w a es n) (E : Ent C es.toList tb) (z : Str) :
    (∀ d, lookF z tb = some d → ∃ u v, PySem.W.nsIn K a z = some (some u) ∧ RelV v u ∧ ∀ G ρ, Den C G ρ d v) ∧ (lookF z tb = none → PySem.W.nsIn K a z = some none) := by
  obtain ⟨i1, i2, i3⟩ := E.nsIn (z := z)
  have e0 : PySem.W.nsIn K a z = (match es.toList.find? (·.key.isStr z) with | some e => some (some e.val) | none => some none) := by
    unfold PySem.W.nsIn
    rw [D0.at_]
    exact i1
  refine ⟨fun d h => ?_, fun h => ?_⟩
  · obtain ⟨e, v, f, r, k⟩ := i2 d h
    exact ⟨e.val, v, by rw [e0, f], r, k⟩
  · rw [e0, i3 h]
def oKdIn (tb : List (Str × D)) (neg : Bool) : D → M D
  | .str z => pure (.bl (if neg then !(lookF z tb).isSome else (lookF z tb).isSome))
  | _ => mStuck
def oKdGet (tb : List (Str × D)) : D → M D
  | .str z => optM (lookF z tb)
  | _ => mStuck
def eKdIn (tb : List (Str × D)) (neg : Bool) (m : LE → M D) : LE → M D := fun env => m env >>= oKdIn tb neg
def eKdGet (tb : List (Str × D)) (m : LE → M D) : LE → M D := fun env => m env >>= oKdGet tb
theorem se_kdGet {x : Str} {a : Addr} {tb : List (Str × D)} {e : Expr} {m : LE → M D} {p pos : Pos} (hm : X.mg x = some (.ref a)) (T : KdAt X.K X.w C a tb) (h : SE X C W e m) (hg : Gl X x := by rfl) (hs : PlainIx e := by exact fun _ _ => rfl) (hdb : (x == ("__debug__" : Str)) = false := by decide) :
    SE X C W (.Subscript (.Name x p) e pos) (eKdGet tb m) := by
  obtain ⟨t, pe, se⟩ := h.out
  obtain ⟨es, n, D0, E0⟩ := T.at'
  refine ⟨_, pe_ix ix_kdict (pe_glob (v := .ref a) hg hm rfl hdb) pe hs, fun env σ c Q hR hF => ?_⟩
  refine se env σ c _ hR (Fn.bind hF fun d c1 e1 w1 hF1 v dn => ?_)
  cases d <;> first | exact False.elim hF1 | skip
  rename_i z
  cases (show v = _ from dn)
  obtain ⟨d, ed, k⟩ := Fn.opt w1 (show Fn C c1 ((optM (lookF z tb) : M D) c1.s) (KD C Q) (fun a b H => W a b σ H) from hF1)
  obtain ⟨u, v, e2, r, dd⟩ := (KdAt.look D0 E0 z).1 d ed
  exact ⟨a, z, v, rfl, rfl, ⟨es, n, u, D0.at_, D0.lit, e2, r⟩, k v (dd _ _)⟩
theorem kd_in {a : Addr} {tb : List (Str × D)} {es : Array DictEntry} {n : Nat} (D0 : KDict X.K X.w a es n) (E0 : Ent C es.toList tb) {t : TE} {m : LE → M D} (s : SimE C W t m) : SimE C W (tOp (fun x y H Q => ∃ (z : Str) (r : Option Value), x = .str z ∧ y = .ref a ∧ PySem.W.nsIn X.K a z = some r ∧ Q (.bl r.isSome) H) t (tC (.ref a))) (eKdIn tb false m) := by
  intro env σ c Q hR hF
  refine s env σ c _ hR (Fn.bind hF fun d c1 e1 w1 hF1 v dn => ?_)
  cases d <;> first | exact False.elim hF1 | skip
  rename_i z
  cases (show v = _ from dn)
  have k := Fn.ok w1 hF1
  obtain ⟨l1, l2⟩ := KdAt.look D0 E0 z
  cases ed : lookF z tb with
  | some d =>
    obtain ⟨u, v, e2, r, dd⟩ := l1 d ed
    rw [ed] at k
    exact ⟨z, _, rfl, rfl, e2, k _ rfl⟩
  | none =>
    rw [ed] at k
    exact ⟨z, _, rfl, rfl, l2 ed, k _ rfl⟩
theorem kd_notIn {a : Addr} {tb : List (Str × D)} {es : Array DictEntry} {n : Nat} (D0 : KDict X.K X.w a es n) (E0 : Ent C es.toList tb) {t : TE} {m : LE → M D} (s : SimE C W t m) : SimE C W (tOp (fun x y H Q => ∃ (z : Str) (r : Option Value), x = .str z ∧ y = .ref a ∧ PySem.W.nsIn X.K a z = some r ∧ Q (.bl (!r.isSome)) H) t (tC (.ref a))) (eKdIn tb true m) := by
  intro env σ c Q hR hF
  refine s env σ c _ hR (Fn.bind hF fun d c1 e1 w1 hF1 v dn => ?_)
  cases d <;> first | exact False.elim hF1 | skip
  rename_i z
  cases (show v = _ from dn)
  have k := Fn.ok w1 hF1
  obtain ⟨l1, l2⟩ := KdAt.look D0 E0 z
  cases ed : lookF z tb with
  | some d =>
    obtain ⟨u, v, e2, r, dd⟩ := l1 d ed
    rw [ed] at k
    exact ⟨z, _, rfl, rfl, e2, k _ rfl⟩
  | none =>
    rw [ed] at k
    exact ⟨z, _, rfl, rfl, l2 ed, k _ rfl⟩
theorem st_kdIn {x : Str} {a : Addr} {tb : List (Str × D)} {e : Expr} {m : LE → M D} {p pos : Pos} (hm : X.mg x = some (.ref a)) (T : KdAt X.K X.w C a tb) (h : SE X C W e m) (hg : Gl X x := by rfl) (hdb : (x == ("__debug__" : Str)) = false := by decide) (hmk : behindInMarks .In (.Name x p) = false := by first | exact nomark _ | rfl) :
    STe X C W (.Compare e [.In] [.Name x p] pos) (tOf (eKdIn tb false m)) := by
  obtain ⟨t, pe, se⟩ := h.out
  obtain ⟨es, n, D0, E0⟩ := T.at'
  exact ⟨_, pt_cmpR (op_in_kd D0) pe (pe_glob (v := .ref a) hg hm rfl hdb) hmk, sim_tTest (kd_in D0 E0 se)⟩
theorem st_kdNotIn {x : Str} {a : Addr} {tb : List (Str × D)} {e : Expr} {m : LE → M D} {p pos : Pos} (hm : X.mg x = some (.ref a)) (T : KdAt X.K X.w C a tb) (h : SE X C W e m) (hg : Gl X x := by rfl) (hdb : (x == ("__debug__" : Str)) = false := by decide) (hmk : behindInMarks .NotIn (.Name x p) = false := by first | exact nomark _ | rfl) :
    STe X C W (.Compare e [.NotIn] [.Name x p] pos) (tOf (eKdIn tb true m)) := by
  obtain ⟨t, pe, se⟩ := h.out
  obtain ⟨es, n, D0, E0⟩ := T.at'
  exact ⟨_, pt_cmpR (op_notIn_kd D0) pe (pe_glob (v := .ref a) hg hm rfl hdb) hmk, sim_tTest (kd_notIn D0 E0 se)⟩
end
end DL
set_option Elab.async false
set_option linter.all false
set_option maxRecDepth 100000
set_option maxHeartbeats 2000000
/-! # The end: a law by its mirror -/
namespace DL
open PySem L2
open PyProof.Rows hiding St
/-- the mirror says True, whatever stands in the store -/
def LawM (n : Nat) (m : List D → M D) : Prop := ∀ ns : List Int, ns.length ≤ n → ∃ s', m [.scr ns] [] = .ok (.bl true) s'
theorem law_callG {P : Program} {w : World} {C : Ct} {mg mb : Str → Option Value} {k : Nat} {fa a : Addr} {fd : FuncData} {x : Str} {m : List D → M D} {s₁ : Shared} {vs : List Value} {ns : List Int}
    (KX : C.K.In s₁.heap) (hns : s₁.heap.Ns mainGlobals mg) (hb : s₁.heap.Ns builtinsNs mb) (hbb : ∀ x : Str, x ≠ "__name__" → mb x = bootBuiltins x) (hlim : s₁.heap.NoLimit) (hg : s₁.gens = #[])
    (ha : s₁.heap.get? a = some { cls := .type "list", data := .seq vs.toArray }) (hi : IntsAre vs ns) (hl : ns.length ≤ sizeLine) (hr : RoomG k callerA)
    (F : ∀ base : Heap, C.K.In base → base.Ns mainGlobals mg → FnG P w C mg base k fa fd [x] m) (hbind : ∀ (s : Shared) (u : Value), BindsTo s fd ⟨[u], []⟩ [(x, u)])
    (hm : ∃ s', m [.scr ns] [] = .ok (.bl true) s') :
    codeAny (model P w) callerA (.call (.ref fa) ⟨[.ref a], []⟩) (fun r s' => r = .ok (.ret (.bool true)) ∧ OldK s₁.heap s'.heap ∧ s'.os = s₁.os ∧ AllBare s'.gens) s₁ := by
  have rv := vals_ints hi
  have lenV := hi.length
  obtain ⟨sE, hmE⟩ := hm
  have core : ∀ H : Hp, Only H → SqL C.K H a (ns.map V.int) → HOk P w H s₁.heap → (∀ b, H b ≠ none → b = a) → (H a ≠ none → C.K.lookup a = none) →
      codeAny (model P w) callerA (.call (.ref fa) ⟨[.ref a], []⟩) (fun r s' => r = .ok (.ret (.bool true)) ∧ OldK s₁.heap s'.heap ∧ s'.os = s₁.os ∧ AllBare s'.gens) s₁ := by
    intro H hO hS hok hA hK
    have away : ∀ {b : Addr}, b ≠ a → H b = none := fun {b} ne => by
      cases q : H b with
      | none => rfl
      | some u => exact absurd (hA b (by rw [q]; simp)) ne
    have noA : ∀ {b : Addr} {o : Obj} {es : Array DictEntry} {ep : Nat}, s₁.heap.get? b = some o → o.data = .dict es ep → H b = none := fun {b o es ep} e d => away fun z => by
      subst z
      rw [ha] at e
      cases e
      exact nomatch (show Data.seq vs.toArray _ = Data.dict es ep from d)
    have nsK : ∀ {b : Addr} {m : Str → Option Value}, s₁.heap.Ns b m → (hidT s₁.heap H).Ns b m := fun {b m} ⟨o, es, ep, e, d, r⟩ => ⟨o, es, ep, hidT_get e (noA e d), d, r⟩
    have hKb : C.K.In (hidT s₁.heap H) := fun b o e => hidT_get (KX b o e) (by
      cases q : H b with
      | none => rfl
      | some u =>
        cases hA b (by rw [q]; simp)
        rw [hK (by rw [q]; simp)] at e
        cases e)
    have hM : Mod C.K mg (hidT s₁.heap H) := ⟨hKb, nsK hns, ⟨mb, nsK hb, hbb⟩, hlim.elim fun mc h => ⟨mc, nsK h.1, h.2⟩⟩
    have none0 : ∀ {b : Addr} {R : Prop}, b ∈ ([] : List Addr) → R := fun z => absurd z (by simp)
    have e0 : Env0 P w C.K mg (hidT s₁.heap H) callerA [] s₁ H := ⟨rfl, hM, fun b o e => of_hidT e, Nat.le_of_eq (hidT_size _ _), trivial, fun b hb => none0 (show b ∈ ([] : List Addr) from hb), hok, .of_eq hg⟩
    have w0 : WF C ⟨H, H, [], []⟩ := ⟨Gr.refl _, rfl, List.nodup_nil, fun b z => none0 z, fun n o z => by simp at z⟩
    have dn : DenL C H [] [.scr ns] [V.ref a] := .one ⟨a, rfl, hS⟩
    refine codeAny_mono ((F _ hKb (nsK hns)).run callerA [] s₁ ⟨H, H, [], []⟩ ⟨[.ref a], []⟩ [.ref a] [.ref a] [.scr ns] (fun v _ => v = .bl true) (fun _ _ _ => False) hr e0 (hbind s₁ (.ref a)) (.cons rfl .nil) w0 dn rfl
      (by rw [hmE]; exact fun c' _ _ _ v dv => dv)) fun r s' h => ?_
    cases r with
    | error e =>
      obtain ⟨_, _, _, _, _, _, _, _, _, _, _, _, z⟩ := h
      exact False.elim z
    | ok fl =>
      cases fl <;> first | exact False.elim h | skip
      rename_i u
      obtain ⟨v, H', os, bare, un, hok', r', q⟩ := h
      cases (show v = V.bl true from q)
      cases (show u = Value.bool true from r')
      refine ⟨rfl, OldK.of_keep fun b o e => ?_, os, bare⟩
      cases q : H b with
      | none => exact un.keep b o e q (fun z => none0 (show b ∈ ([] : List Addr) from z)) (by simp)
      | some u =>
        rcases hO b with z | ⟨ob, xs, z⟩
        · rw [q] at z; cases z
        · obtain ⟨e1, _⟩ := hok b _ z
          obtain ⟨e2, _⟩ := hok' b _ (un.frzs b ob _ z)
          rw [e] at e1; cases e1
          exact e2
  cases hk : C.K.lookup a with
  | some o =>
    have e := KX a o hk
    rw [ha] at e
    cases e
    exact core (fun _ => none) (fun _ => .inl rfl) (.inr ⟨_, vs.toArray, _, hk, rfl, rfl, rfl, by rw [List.size_toArray, lenV]; exact hl, by simpa using rv⟩) (fun b u z => nomatch (show (none : Option HO) = some u from z)) (fun b z => absurd rfl z) fun z => absurd rfl z
  | none =>
    refine core (fun b => if b = a then some (.frz { cls := .type "list", data := .seq vs.toArray } (.lst (ns.map V.int))) else none) (fun b => ?_) (.inl (.inr ⟨{ cls := .type "list", data := .seq vs.toArray }, if_pos rfl⟩)) (fun b u z => ?_) (fun b z => Decidable.byContradiction fun hb => z (if_neg hb)) fun _ => hk
    · by_cases hb : b = a
      · exact .inr ⟨_, _, if_pos hb⟩
      · exact .inl (if_neg hb)
    · by_cases hb : b = a
      · cases (if_pos hb).symm.trans z
        subst hb
        exact ⟨ha, by rw [List.length_map]; exact hl, vs, _, rv, ha⟩
      · cases (if_neg hb).symm.trans z
theorem walk_G {l : PySem.W.OpenLaw} {n k : Nat} {q : Program} {loose : List Str} {XP : (Str → Option Value) → Heap → Prop} {YP : World → Heap → Prop} {d : DefRec} {K : Params → PySem.W.Frag} {x : Str} {m : List D → M D}
    (hn : l.most = some n) (hn2 : n ≤ sizeLine) (hdf : d.params.defaults = []) (hr : RoomG k callerA)
    (hY : ∀ (w : World) (h : Heap), YP w h → (K w.params).In h)
    (F : ∀ (w : World) (mg : Str → Option Value) (fa : Addr) (h : Heap), (K w.params).In h → h.Ns mainGlobals mg → mg d.name = some (.ref fa) →
      ∃ (fd : FuncData) (C : Ct), C.K = K w.params ∧ (∀ (s : Shared) (u : Value), BindsTo s fd ⟨[u], []⟩ [(x, u)]) ∧ ∀ base : Heap, (K w.params).In base → base.Ns mainGlobals mg → FnG l.prog w C mg base k fa fd [x] m)
    (hm : LawM n m) :
    PySem.W.WalkO q loose XP YP l.row.toRowW d [] (fun f vs => PySem.call f vs) := by
  refine Att.attach_call hn hdf fun w s₀ s₁ mg mb fa o pm cd doc a vs ns G Y ho hd hcd hmg hobj hints hlen hg => ?_
  have KX := hY w _ Y
  obtain ⟨fd, C, hC, hb, hF⟩ := F w mg fa _ KX G.T.g hmg
  rw [← hC] at KX hF
  exact law_callG KX G.T.g G.T.b G.T.builtins G.T.nolimit hg hobj hints (Nat.le_trans hlen hn2) hr hF hb (hm ns hlen)
end DL
set_option Elab.async false
set_option linter.all false
set_option maxRecDepth 100000
set_option maxHeartbeats 2000000
/-! # What the printed derivations say in one word -/
namespace DL
open PySem L2
open PyProof.Rows hiding St
theorem bb_len : bootBuiltins (Str.ofString "len") = some (.builtin "len") := by kernel_rfl
theorem bb_max : bootBuiltins (Str.ofString "max") = some (.builtin "max") := by kernel_rfl
theorem bb_min : bootBuiltins (Str.ofString "min") = some (.builtin "min") := by kernel_rfl
theorem bb_all : bootBuiltins (Str.ofString "all") = some (.builtin "all") := by kernel_rfl
theorem bb_any : bootBuiltins (Str.ofString "any") = some (.builtin "any") := by kernel_rfl
theorem bb_sorted : bootBuiltins (Str.ofString "sorted") = some (.builtin "sorted") := by kernel_rfl
theorem bb_repr : bootBuiltins (Str.ofString "repr") = some (.builtin "repr") := by kernel_rfl
theorem bb_int : bootBuiltins (Str.ofString "int") = some (.type "int") := by kernel_rfl
theorem bb_str : bootBuiltins (Str.ofString "str") = some (.type "str") := by kernel_rfl
theorem bb_tuple : bootBuiltins (Str.ofString "tuple") = some (.type "tuple") := by kernel_rfl
theorem bb_list : bootBuiltins (Str.ofString "list") = some (.type "list") := by kernel_rfl
theorem bb_bool : bootBuiltins (Str.ofString "bool") = some (.type "bool") := by kernel_rfl
theorem bb_dict : bootBuiltins (Str.ofString "dict") = some (.type "dict") := by kernel_rfl
theorem bb_set : bootBuiltins (Str.ofString "set") = some (.type "set") := by kernel_rfl
section
variable {X : Cx} {C : Ct} {c0 : Cf} {W : WX}
/-- target = e -/
def sAsg (m : LE → M D) (g : GM) : SM := sE m fun d env s => (g d env).map fun env' => (.nx env', s)
theorem s1_asg {tg e : Expr} {m : LE → M D} {g : GM} {is : List Nat} {pos : Pos} (h : SE X C W e m) (k : SG X C tg g is) (hs : swapsWithSole [tg] e pos.line X.env = pure false := by rfl) (hw : swappedStores [tg] e X.env = pure none := by rfl)
    (h1 : (assignEach [tg] X.env).map (·.2) = [assign tg X.env] := by rfl) : SS1 X C c0 W (.Assign [tg] e pos) (sAsg m g) := by
  obtain ⟨t, p, s⟩ := h.out
  obtain ⟨u, q, sg⟩ := k.out
  refine ⟨_, ps_asg p q hs hw h1, fun env σ c E hR hF => s env σ c _ hR.rl (hF.fn hR fun d c' x w hR' hF' v dn => ?_)⟩
  cases eg : g d env with
  | none => rw [eg] at hF'; exact False.elim hF'
  | some env' =>
    rw [eg] at hF'
    exact sg env σ c' d v env' _ hR'.rl dn eg fun σ' R' S' => hF' σ' c' rfl (S'.rls hR' R') (Since.refl _)
/-- -e -/
def oNeg : D → M D
  | .int i => pure (.int (-i))
  | _ => mStuck
def eNeg (m : LE → M D) : LE → M D := fun env => m env >>= oNeg
theorem se_neg {e : Expr} {m : LE → M D} {pos : Pos} (h : SE X C W e m) : SE X C W (.UnaryOp .USub e pos) (eNeg m) := by
  obtain ⟨t, p, s⟩ := h.out
  refine ⟨_, pe_un un_neg p, fun env σ c Q hR hF => s env σ c _ hR (Fn.bind hF fun x c1 e1 w1 hF1 v d1 => ?_)⟩
  cases x <;> first | exact False.elim hF1 | skip
  cases (show v = _ from d1)
  exact ⟨_, rfl, Fn.ok w1 hF1 _ rfl⟩
def oIsN : D → D → M D := fun x y => if x.noOb then oIs x y else mStuck
def oNotN : D → D → M D := fun x y => if x.noOb then oIsNot x y else mStuck
/-- a constant of the module -/
structure Cst (C : Ct) (mg : Str → Option Value) (x : Str) (d : D) : Prop where
  at' : ∃ u, mg x = some u ∧ KV C u d
theorem se_gc {x : Str} {d : D} {pos : Pos} (h : Cst C X.mg x d) (hg : Gl X x := by rfl) (hd : (x == ("__debug__" : Str)) = false := by decide) : SE X C W (.Name x pos) (eK d) := by
  obtain ⟨u, hm, k⟩ := h.at'
  exact se_glob hm k hg hd
theorem kv_str {x : Str} {t : Tok} : KV C (.str x t) (.str x) := ⟨.str x, ⟨t, rfl⟩, fun _ _ => rfl⟩
theorem kv_int {x : Int} {t : Tok} : KV C (.int x t) (.int x) := ⟨.int x, ⟨t, rfl⟩, fun _ _ => rfl⟩
theorem kv_cls {k : Nat} : KV C (.ref (C.ca k)) (.cls k) := ⟨.ref (C.ca k), rfl, fun _ _ => rfl⟩
/-- a dict of the module -/
structure Kd (K : PySem.W.Frag) (w : World) (C : Ct) (mg : Str → Option Value) (x : Str) (tb : List (Str × D)) : Prop where
  at' : ∃ a, mg x = some (.ref a) ∧ KdAt K w C a tb
theorem se_kdG {x : Str} {tb : List (Str × D)} {e : Expr} {m : LE → M D} {p pos : Pos} (T : Kd X.K X.w C X.mg x tb) (h : SE X C W e m) (hg : Gl X x := by rfl) (hs : PlainIx e := by exact fun _ _ => rfl) (hdb : (x == ("__debug__" : Str)) = false := by decide) :
    SE X C W (.Subscript (.Name x p) e pos) (eKdGet tb m) := by
  obtain ⟨a, hm, k⟩ := T.at'
  exact se_kdGet hm k h hg hs hdb
theorem st_kdI {x : Str} {tb : List (Str × D)} {e : Expr} {m : LE → M D} {p pos : Pos} (T : Kd X.K X.w C X.mg x tb) (h : SE X C W e m) (hg : Gl X x := by rfl) (hdb : (x == ("__debug__" : Str)) = false := by decide) (hmk : behindInMarks .In (.Name x p) = false := by first | exact nomark _ | rfl) :
    STe X C W (.Compare e [.In] [.Name x p] pos) (tOf (eKdIn tb false m)) := by
  obtain ⟨a, hm, k⟩ := T.at'
  exact st_kdIn hm k h hg hdb hmk
theorem st_kdN {x : Str} {tb : List (Str × D)} {e : Expr} {m : LE → M D} {p pos : Pos} (T : Kd X.K X.w C X.mg x tb) (h : SE X C W e m) (hg : Gl X x := by rfl) (hdb : (x == ("__debug__" : Str)) = false := by decide) (hmk : behindInMarks .NotIn (.Name x p) = false := by first | exact nomark _ | rfl) :
    STe X C W (.Compare e [.NotIn] [.Name x p] pos) (tOf (eKdIn tb true m)) := by
  obtain ⟨a, hm, k⟩ := T.at'
  exact st_kdNotIn hm k h hg hdb hmk
end
end DL
namespace DL
open PySem L2
open PyProof.Rows hiding St
/-- a def by its body, the text laid open once -/
theorem fn_mirrorL {P : Program} {w : World} {C : Ct} {mg : Str → Option Value} {base : Heap} {x qual : Str} {st : Stmt} {f : Addr} {fd : FuncData} {N ps : List Str} {k n : Nat} {b : SM} {bd : List Stmt} {sco : Scope} (F : Fun C.K x qual st f fd) (Sc : FnScope N ps (defScope st)) (hn : N.length = n) (hb : defBody st = bd) (hs : defScope st = sco)
    (body : ∀ (cdv : Value) (A : Around) (outer : List Env) (s : Shared) (c : Cf) (E : XK), RoomG k (A.deeper (envOfC qual sco s.heap.objs.size f cdv)) →
      SS (cxOf (L2.CX P w) P w C.K mg base N qual sco f cdv A outer s c.H E) C c (WF0 E) bd b) : FnG P w C mg base (k + 1) f fd ps (mFn n b) := by
  subst hb hs hn
  exact fn_mirror F Sc body
section
variable {X : Cx} {C : Ct} {c0 : Cf} {W : WX} {k n : Nat} {f : Addr} {fd : FuncData} {ps : List Str} {m : List D → M D} {tg : Expr}
theorem se_callN {x : Str} {p pos : Pos} {e : Expr} {es : List Expr} {ma : LE → M (List D)} {dds : List D} (F : FnG X.prog X.w C X.mg X.base k f fd ps m) (room : RoomG k X.A) (tk : Takes X W) (hm : X.mg x = some (.ref f)) (hk : PySem.W.keepIn C.K (.ref f) = true)
    (df : Dfl C fd ps dds) (hn : ps.length = n) (ha : SA X C W (e :: es) ma) (hK : X.K = C.K := by rfl) (hg : Gl X x := by rfl) (hdb : (x == ("__debug__" : Str)) = false := by decide) (he : starEach (e :: es) X.env = (false, eval e X.env) :: starEach es X.env := by rfl)
    (hpl : (backTo pos (starEach es X.env)).any (·.1) = false := by rfl) : SE X C W (.Call (.Name x p) (e :: es) [] pos) (eCall n m dds ma) := by
  subst hn
  exact se_call F room tk hm hk df ha hK hg hdb he hpl
theorem se_callN0 {x : Str} {p pos : Pos} {dds : List D} (F : FnG X.prog X.w C X.mg X.base k f fd ps m) (room : RoomG k X.A) (tk : Takes X W) (hm : X.mg x = some (.ref f)) (hk : PySem.W.keepIn C.K (.ref f) = true)
    (df : Dfl C fd ps dds) (hn : ps.length = n) (hK : X.K = C.K := by rfl) (hg : Gl X x := by rfl) (hdb : (x == ("__debug__" : Str)) = false := by decide) : SE X C W (.Call (.Name x p) [] [] pos) (eCall n m dds aNil) := by
  subst hn
  exact se_call0 F room tk hm hk df hK hg hdb
theorem sn_compN {elt iter : Expr} {ifs : List Expr} {scope : Scope} (own : List (Str × Nat)) (ow : List Nat) {pos : Pos} {mi : LE → M (List D)} {mg : GM} {is : List Nat} {mt : LE → M Bool} {me : LE → M D} (ho : own.map (·.2) = ow) (hi : SI X C W tg iter mi) (hN : X.N.Nodup) (ok : blkC X.N X.env.scope scope own = true)
    (hg : ∀ (s : Shared) (H : Hp) (c : Addr) (cl : List (Str × Addr)) (fp : List Addr), SG (X.blk s H scope (compEnvC scope cl c X.env) fp) C tg mg is)
    (ht : ∀ (s : Shared) (H : Hp) (c : Addr) (cl : List (Str × Addr)) (fp : List Addr), STs (X.blk s H scope (compEnvC scope cl c X.env) fp) C WN ifs mt)
    (he : ∀ (s : Shared) (H : Hp) (c : Addr) (cl : List (Str × Addr)) (fp : List Addr), SE (X.blk s H scope (compEnvC scope cl c X.env) fp) C WN elt me)
    (sub : (is.all fun i => decide (i ∈ own.map (·.2))) = true := by rfl) (hc : X.calm = true := by rfl) (hs : ∀ x, foldedSetIterable iter X.env x = pure x := by intro _; rfl) :
    SN X C W (.ListComp elt [⟨tg, iter, ifs, 0⟩] scope pos) (nLc mi mg mt me ow) := by
  subst ho
  exact sn_comp own hi hN ok hg ht he sub hc hs
theorem s1_compN (i : Nat) {y : Str} {py : Pos} {elt iter : Expr} {ifs : List Expr} {scope : Scope} (own : List (Str × Nat)) (ow : List Nat) {pos spos : Pos} {mi : LE → M (List D)} {mg : GM} {is : List Nat} {mt : LE → M Bool} {me : LE → M D} (ho : own.map (·.2) = ow) (hi : SI X C W tg iter mi) (hN : X.N.Nodup) (ok : blkC X.N X.env.scope scope own = true)
    (hg : ∀ (s : Shared) (H : Hp) (c : Addr) (cl : List (Str × Addr)) (fp : List Addr), SG (X.blk s H scope (compEnvC scope cl c X.env) fp) C tg mg is)
    (ht : ∀ (s : Shared) (H : Hp) (c : Addr) (cl : List (Str × Addr)) (fp : List Addr), STs (X.blk s H scope (compEnvC scope cl c X.env) fp) C WN ifs mt)
    (he : ∀ (s : Shared) (H : Hp) (c : Addr) (cl : List (Str × Addr)) (fp : List Addr), SE (X.blk s H scope (compEnvC scope cl c X.env) fp) C WN elt me)
    (hy : X.N[i]? = some y := by rfl) (hyl : X.env.scope.names.lookup y = some .local := by rfl)
    (hsw : swapsWith (.ListComp elt [⟨tg, iter, ifs, 0⟩] scope pos) (some (.Name y py)) spos.line X.env = pure true := by exact sw_true rfl rfl rfl (by decide +kernel))
    (sub : (is.all fun i => decide (i ∈ own.map (·.2))) = true := by rfl) (hc : X.calm = true := by rfl) (hs : ∀ x, foldedSetIterable iter X.env x = pure x := by intro _; rfl) :
    SS1 X C c0 W (.Assign [.Name y py] (.ListComp elt [⟨tg, iter, ifs, 0⟩] scope pos) spos) (sOwn i (nLc mi mg mt me ow)) := by
  subst ho
  exact s1_comp i own hi hN ok hg ht he hy hyl hsw sub hc hs
end
end DL
set_option Elab.async false
set_option linter.all false
set_option maxRecDepth 100000
set_option maxHeartbeats 2000000
/-! # Instances of own classes: fields, methods, properties, making, == -/
namespace DL
open PySem L2
open PyProof.Rows hiding St
section
variable {X : Cx} {C : Ct} {c0 : Cf} {W : WX}
/-! ### the instance in a cell -/
def insM (d : D) : M (Nat × List (Str × D)) := match d with
  | .loc n => fun s => match s[n]? with
    | some (some (.ins c fs)) => .ok (c, fs) s
    | _ => .stuck
  | _ => mStuck
theorem insM_sim {c : Cf} {d : D} {v : V} {β : Type} {f : Nat × List (Str × D) → M β} {K : β → Cf → Prop} {E : XK} (w : WF C c) (dn : Den C c.G c.ρ d v) (h : Fn C c ((insM d >>= f) c.s) K E) :
    ∃ n a k fs dx gs, d = .loc n ∧ v = .ref a ∧ c.ρ[n]? = some a ∧ c.s[n]? = some (some (.ins k fs)) ∧ c.H a = some (.ins (C.ca k) dx gs) ∧ c.G dx = some (.own a) ∧ DenF C c.G c.ρ fs gs ∧ Fn C c (f (k, fs) c.s) K E := by
  cases d <;> first | exact False.elim h | skip
  rename_i n
  obtain ⟨a, rfl, ha⟩ := dn
  have h' : Fn C c (R.bind (match c.s[n]? with
    | some (some (.ins k fs)) => R.ok (k, fs) c.s
    | _ => R.stuck) f) K E := h
  cases q : c.s[n]? with
  | none => rw [q] at h'; exact False.elim h'
  | some o =>
    cases o with
    | none => rw [q] at h'; exact False.elim h'
    | some o =>
      obtain ⟨b, ho, r1, r2, r3, r4⟩ := w.cel n o q
      rw [ha] at r1
      cases r1
      rw [q] at h'
      cases o with
      | lst ds => exact False.elim h'
      | dct ds => exact False.elim h'
      | lk ds => exact False.elim h'
      | ins k fs => obtain ⟨dx, gs, rfl, g, l⟩ := r4; exact ⟨n, a, k, fs, dx, gs, rfl, rfl, ha, q, r3, g, l, h'⟩
/-! ### o.f, a field -/
def fldM (cs : List Nat) (f : Str) (d : D) : M D := insM d >>= fun p => guardM (cs.contains p.1) >>= fun _ => optM (lookF f p.2)
def eFld (cs : List Nat) (f : Str) (m : LE → M D) : LE → M D := fun env => m env >>= fldM cs f
structure FldT (K : PySem.W.Frag) (C : Ct) (cs : List Nat) (f : Str) : Prop where
  ok : ∀ k, cs.contains k = true → Cls K (C.ca k) ∧ NoAttr K (C.ca k) f
theorem se_fld {cs : List Nat} {f : Str} {e : Expr} {m : LE → M D} {pos : Pos} (T : FldT X.K C cs f) (h : SE X C W e m) (hb : attributeBase e f X.env (eval e X.env) = eval e X.env := by rfl) : SE X C W (.Attribute e f pos) (eFld cs f m) := by
  obtain ⟨t, p, s⟩ := h.out
  refine ⟨_, pe_fld p hb, fun env σ c Q hR hF => s env σ c _ hR (Fn.bind hF fun d c1 e1 w1 hF1 v dn => ?_)⟩
  obtain ⟨n, a, k, fs, dx, gs, rfl, rfl, _, _, ha, _, l, h2⟩ := insM_sim w1 dn hF1
  obtain ⟨hc, h3⟩ := Fn.guard h2
  obtain ⟨x, ex, h4⟩ := Fn.opt w1 h3
  obtain ⟨u, e2, d2⟩ := lookF_den l ex
  obtain ⟨cl, na⟩ := T.ok k hc
  exact ⟨a, _, dx, gs, u, rfl, ha, cl, na, e2, h4 u d2⟩
/-! ### o.f = e -/
def putFd (f : Str) (d : D) : List (Str × D) → List (Str × D)
  | [] => [(f, d)]
  | (g, x) :: r => if g = f then (g, d) :: r else (g, x) :: putFd f d r
theorem DenF.put {G : Hp} {ρ : List Addr} {f : Str} {d : D} {v : V} (dn : Den C G ρ d v) : ∀ {fs : List (Str × D)} {gs : List (Str × V)}, DenF C G ρ fs gs → DenF C G ρ (putFd f d fs) (putF f v gs)
  | [], gs, h => by
    simp only [DenF] at h
    subst h
    simp only [putFd, putF, DenF]
    exact ⟨v, [], rfl, dn, rfl⟩
  | (g, x) :: r, gs, h => by
    simp only [DenF] at h
    obtain ⟨u, r', rfl, h1, h2⟩ := h
    simp only [putFd, putF]
    by_cases e : g = f
    · rw [if_pos e, if_pos e]
      simp only [DenF]
      exact ⟨v, r', rfl, dn, h2⟩
    · rw [if_neg e, if_neg e]
      simp only [DenF]
      exact ⟨u, _, rfl, h1, DenF.put dn h2⟩
theorem DenF.length {G : Hp} {ρ : List Addr} : ∀ {fs : List (Str × D)} {gs : List (Str × V)}, DenF C G ρ fs gs → gs.length = fs.length
  | [], gs, h => by simp only [DenF] at h; subst h; rfl
  | (g, x) :: r, gs, h => by
    simp only [DenF] at h
    obtain ⟨u, r', rfl, h1, h2⟩ := h
    simp [DenF.length h2]
def setFM (cs : List Nat) (f : Str) (o d : D) (s : S) : Option S := match o with
  | .loc n => (match s[n]? with
    | some (some (.ins k fs)) => if (cs.contains k && decide (fs.length < 1000)) = true then some (s.set n (some (.ins k (putFd f d fs)))) else none
    | _ => none)
  | _ => none
def sSetF (cs : List Nat) (f : Str) (mo me : LE → M D) : SM := sE me fun d => sE mo fun o env s => (setFM cs f o d s).map fun s' => (.nx env, s')
theorem s1_setf {cs : List Nat} {f : Str} {o e : Expr} {mo me : LE → M D} {pos' pos : Pos} (T : FldT X.K C cs f) (ho : SE X C W o mo) (he : SE X C W e me) (hs : swapsWith e (some (.Attribute o f pos')) pos.line X.env = pure false := by rfl) :
    SS1 X C c0 W (.Assign [.Attribute o f pos'] e pos) (sSetF cs f mo me) := by
  obtain ⟨to, po, so⟩ := ho.out
  obtain ⟨te, pe, se⟩ := he.out
  refine ⟨_, ps_fld po pe hs, fun env σ c E hR hF => ?_⟩
  refine se env σ c _ hR.rl (hF.fn hR fun d c1 x1 w1 hR1 hF1 v dn => ?_)
  refine so env σ c1 _ hR1.rl (hF1.fn hR1 fun od c2 x2 w2 hR2 hF2 ov don => ?_)
  cases od <;> first | exact False.elim hF2 | skip
  rename_i n
  have h3 : FS C c0 c2 W E ((match c2.s[n]? with
    | some (some (.ins k fs)) => if (cs.contains k && decide (fs.length < 1000)) = true then some (c2.s.set n (some (.ins k (putFd f d fs)))) else none
    | _ => none).map fun s' => (.nx env, s')) := hF2
  obtain ⟨a, rfl, ha3⟩ := don
  cases q : c2.s[n]? with
  | none => rw [q] at h3; exact False.elim h3
  | some oo =>
    cases oo with
    | none => rw [q] at h3; exact False.elim h3
    | some oo =>
      rw [q] at h3
      cases oo with
      | dct _ => exact False.elim h3
      | lk _ => exact False.elim h3
      | lst _ => exact False.elim h3
      | ins k fs =>
        obtain ⟨a', hob, r1, r2, r3, dx, gs, rfl, g, l⟩ := w2.cel n _ q
        rw [ha3] at r1
        cases r1
        by_cases hg : (cs.contains k && decide (fs.length < 1000)) = true
        · simp only [hg, if_true] at h3
          rw [Bool.and_eq_true] at hg
          obtain ⟨cl, na⟩ := T.ok k hg.1
          have dn2 := dn.mono x2.g x2.pre
          obtain ⟨w4, e4⟩ := w2.cell (o' := .ins k (putFd f d fs)) (ho' := .ins (C.ca k) dx (putF f v gs)) q ha3 ⟨dx, _, rfl, g, DenF.put dn2 l⟩
          exact ⟨a, _, dx, gs, rfl, r3, cl, na, by rw [l.length]; exact of_decide_eq_true hg.2, h3 σ ⟨_, _, _, _⟩ rfl (hR2.step e4 w4) e4.since⟩
        · simp only [hg] at h3
          exact False.elim h3
/-! ### o.m(..) -/
/-- the instance must be one of the class k without a field of that name -/
def isInsM (k : Nat) (m : Str) (d : D) : M Unit := insM d >>= fun p => guardM (decide (p.1 = k) && (lookF m p.2).isNone)
def eMeth (k n : Nat) (nm : Str) (m : List D → M D) (dds : List D) (mo : LE → M D) (ma : LE → M (List D)) : LE → M D := fun env => mo env >>= fun x => isInsM k nm x >>= fun _ => ma env >>= fun ds => guardM (decide ((x :: (ds ++ dds)).length = n)) >>= fun _ => m (x :: (ds ++ dds))
theorem lookF_none {G : Hp} {ρ : List Addr} {f : Str} : ∀ {fs : List (Str × D)} {gs : List (Str × V)}, DenF C G ρ fs gs → lookF f fs = none → gs.lookup f = none
  | [], gs, h, _ => by simp only [DenF] at h; subst h; rfl
  | (g, x) :: r, gs, h, e => by
    simp only [DenF] at h
    obtain ⟨u, r', rfl, h1, h2⟩ := h
    unfold lookF at e
    split at e
    · cases e
    · rename_i hne
      rw [List.lookup_cons]
      have : (f == g) = false := by
        first
          | (exact beq_false_of_ne (fun z => hne z.symm))
          | (exact beq_false_of_ne hne)
          | simpa using hne
      rw [this]
      exact lookF_none h2 e
/-- o.m(e, ..): the reading -/
def tMethG (C : Ct) (W : WX) (k : Nat) (nm : Str) (n : Nat) (m : List D → M D) (dds : List D) (dvs : List V) (to : TE) (t : TA) : TE := fun σ H Q => to σ H fun x H1 => (∃ a dx gs, x = .ref a ∧ H1 a = some (.ins (C.ca k) dx gs) ∧ gs.lookup nm = none) ∧
  t σ H1 fun vs H2 => ∃ c d ds, c.H = H2 ∧ WF C c ∧ Den C c.G c.ρ d x ∧ DenL C c.G c.ρ ds vs ∧ (d :: (ds ++ dds)).length = n ∧ DenL C c.G c.ρ dds dvs ∧ Fn C c (m (d :: (ds ++ dds)) c.s) (KD C Q) (fun a b H => W a b σ H)
theorem se_meth {k n kr : Nat} {f : Addr} {fd : FuncData} {ps : List Str} {m : List D → M D} {nm : Str} {o e : Expr} {es : List Expr} {mo : LE → M D} {ma : LE → M (List D)} {dds : List D} {apos pos : Pos} {pl : Sem Bool} (cl : Cls X.K (C.ca k)) (hm : Meth X.K (C.ca k) nm f) (F : FnG X.prog X.w C X.mg X.base kr f fd ps m) (room : RoomG kr X.A) (tk : Takes X W)
    (df : Dfl C fd ps dds) (hn : ps.length = n) (ho : SE X C W o mo) (ha : SA X C W (e :: es) ma) (hK : X.K = C.K := by rfl)
    (hst : starEach (e :: es) X.env = (false, eval e X.env) :: starEach es X.env := by rfl) (hpl : (backTo pos (starEach es X.env)).any (·.1) = false := by rfl)
    (ht : eval (.Call (.Attribute o nm apos) (e :: es) [] pos) X.env = (do
      let ov ← eval o X.env
      standAt apos.atName
      let (f, first) ← holding [ov] (getMethod ov nm pl)
      callWith pos f first (backTo pos (starEach (e :: es) X.env)) (backToKw pos (keywordEach [] X.env))) := by rfl) :
    SE X C W (.Call (.Attribute o nm apos) (e :: es) [] pos) (eMeth k n nm m dds mo ma) := by
  subst hn
  obtain ⟨to, po, so⟩ := ho.out
  obtain ⟨t, pa, sa⟩ := ha.out
  obtain ⟨dvs, dus, dv, db, dd⟩ := df.at'
  refine ⟨tMethG C W k nm ps.length m dds dvs to t, ⟨fun pins s σ H Q I h => ?_⟩, fun env σ c Q hR hF => ?_⟩
  · refine PySem.W.methodCall_KW (pl := pl) (thn (po.run pins s σ H _ I h) fun u s1 z => ?_) ht
    obtain ⟨x, H1, I1, rx, ⟨a, dx, gs, ex, ea, l⟩, q⟩ := z
    subst ex
    obtain rfl : u = Value.ref a := rx
    refine getmeth_ok I1 ea cl hm l ?_
    refine PySem.W.callWith_K (first := [.ref a]) (h₀ := X.base) I1.ok.mod.kin hm.kp (thn (pa.run pos pins s1 σ H1 _ I1 q) fun us s2 z => ?_) hst hpl
    obtain ⟨vs, H2, I2, rv, c, d, ds, rfl, wf, dn, dnl, hl, d2, hF⟩ := z
    refine ⟨I2.kIn, ?_⟩
    have hlen : ((Value.ref a :: us) ++ dus).length = ps.length := by
      rw [← hl]
      simp [← rv.length, ← dv.length, dnl.length, d2.length]
    exact fn_run (args := ⟨Value.ref a :: us, []⟩) (us := (Value.ref a :: us) ++ dus) hK F room tk I2 (db s2 (Value.ref a :: us) (by rw [← hK]; exact I2.kIn) hlen) (Vals.append (.cons rfl rv) dv) wf (ds := d :: (ds ++ dds)) (vs := (V.ref a :: vs) ++ dvs) (.cons dn (dnl.append d2)) hl hF
  · refine so env σ c _ hR (Fn.bind hF fun x c1 e1 w1 hF1 v dn => ?_)
    have hF1' : Fn C c1 ((insM x >>= fun p => guardM (decide (p.1 = k) && (lookF nm p.2).isNone) >>= fun _ => ma env >>= fun ds => guardM (decide ((x :: (ds ++ dds)).length = ps.length)) >>= fun _ => m (x :: (ds ++ dds))) c1.s) (KD C Q) (fun a b H => W a b σ H) := by
      have := hF1
      unfold isInsM at this
      simp only [bind_assoc'] at this
      exact this
    obtain ⟨i, a, k', fs, dx, gs, rfl, rfl, _, _, hat, _, l, h2⟩ := insM_sim w1 dn hF1'
    obtain ⟨hg, h3⟩ := Fn.guard h2
    rw [Bool.and_eq_true] at hg
    obtain rfl : k' = k := of_decide_eq_true hg.1
    have hn : lookF nm fs = none := by
      cases q : lookF nm fs with
      | none => rfl
      | some y => rw [q] at hg; exact absurd hg.2 (by simp)
    refine ⟨⟨a, dx, gs, rfl, hat, lookF_none l hn⟩, ?_⟩
    refine sa env σ c1 _ (hR.ext e1 w1) (Fn.bind h3 fun ds c2 e2 w2 hF2 vs dnl => ?_)
    obtain ⟨hz, hF3⟩ := Fn.guard hF2
    exact ⟨c2, .loc i, ds, rfl, w2, dn.mono e2.g e2.pre, dnl, of_decide_eq_true hz, dd _ _, hF3⟩
theorem se_meth0 {k n kr : Nat} {f : Addr} {fd : FuncData} {ps : List Str} {m : List D → M D} {nm : Str} {o : Expr} {mo : LE → M D} {dds : List D} {apos pos : Pos} {pl : Sem Bool} (cl : Cls X.K (C.ca k)) (hm : Meth X.K (C.ca k) nm f) (F : FnG X.prog X.w C X.mg X.base kr f fd ps m) (room : RoomG kr X.A) (tk : Takes X W)
    (df : Dfl C fd ps dds) (hn : ps.length = n) (ho : SE X C W o mo) (hK : X.K = C.K := by rfl)
    (ht : eval (.Call (.Attribute o nm apos) [] [] pos) X.env = (do
      let ov ← eval o X.env
      standAt apos.atName
      let (f, first) ← holding [ov] (getMethod ov nm pl)
      callWith pos f first (backTo pos (starEach [] X.env)) (backToKw pos (keywordEach [] X.env))) := by rfl) :
    SE X C W (.Call (.Attribute o nm apos) [] [] pos) (eMeth k n nm m dds mo aNil) := by
  subst hn
  obtain ⟨to, po, so⟩ := ho.out
  obtain ⟨dvs, dus, dv, db, dd⟩ := df.at'
  refine ⟨tMethG C W k nm ps.length m dds dvs to tNil, ⟨fun pins s σ H Q I h => ?_⟩, fun env σ c Q hR hF => ?_⟩
  · refine PySem.W.methodCall_KW (pl := pl) (thn (po.run pins s σ H _ I h) fun u s1 z => ?_) ht
    obtain ⟨x, H1, I1, rx, ⟨a, dx, gs, ex, ea, l⟩, c, d, ds, rfl, wf, dn, dnl, hl, d2, hF⟩ := z
    subst ex
    obtain rfl : u = Value.ref a := rx
    refine getmeth_ok I1 ea cl hm l ?_
    have hlen : ([Value.ref a] ++ dus).length = ps.length := by
      rw [← hl]
      simp [← dv.length, d2.length, ← dnl.length]
    exact PySem.W.callWith_K0 (first := [.ref a]) I1.kIn hm.kp (fn_run (args := ⟨[Value.ref a], []⟩) (us := [Value.ref a] ++ dus) hK F room tk I1 (db s1 [Value.ref a] (by rw [← hK]; exact I1.kIn) hlen) (Vals.append (.cons rfl .nil) dv) wf (ds := d :: (ds ++ dds)) (vs := (V.ref a :: []) ++ dvs) (.cons dn (dnl.append d2)) hl hF)
  · refine so env σ c _ hR (Fn.bind hF fun x c1 e1 w1 hF1 v dn => ?_)
    have hF1' : Fn C c1 ((insM x >>= fun p => guardM (decide (p.1 = k) && (lookF nm p.2).isNone) >>= fun _ => guardM (decide ((x :: ([] ++ dds)).length = ps.length)) >>= fun _ => m (x :: ([] ++ dds))) c1.s) (KD C Q) (fun a b H => W a b σ H) := by
      have := hF1
      unfold isInsM at this
      simp only [bind_assoc'] at this
      exact this
    obtain ⟨i, a, k', fs, dx, gs, rfl, rfl, _, _, hat, _, l, h2⟩ := insM_sim w1 dn hF1'
    obtain ⟨hg, h3⟩ := Fn.guard h2
    rw [Bool.and_eq_true] at hg
    obtain rfl : k' = k := of_decide_eq_true hg.1
    have hn : lookF nm fs = none := by
      cases q : lookF nm fs with
      | none => rfl
      | some y => rw [q] at hg; exact absurd hg.2 (by simp)
    obtain ⟨hz, hF3⟩ := Fn.guard h3
    exact ⟨⟨a, dx, gs, rfl, hat, lookF_none l hn⟩, c1, .loc i, [], rfl, w1, dn, .nil, of_decide_eq_true hz, dd _ _, hF3⟩
end
end DL
set_option Elab.async false
set_option linter.all false
set_option maxRecDepth 100000
set_option maxHeartbeats 2000000
namespace DL
open PySem L2
open PyProof.Rows hiding St
theorem RoomG.in1 {k : Nat} {A : Around} (r : RoomG (k + 1) A) : RoomG k A.in1 := ⟨r.room.in1, r.gd⟩
theorem RoomG.make {k : Nat} {A : Around} (r : RoomG (k + 1) A) (C : Addr) (us : List Value) (kw : List (Str × Value)) : RoomG k (A.under (.builtin "type.__call__" ⟨.ref C :: us, kw⟩)) := by
  refine ⟨r.room.make C us kw, ?_⟩
  have g := r.gd
  first
    | exact g
    | (simp [Around.under, Code.guards, Code.isGuard, guardIds, g])
section
variable {X : Cx} {C : Ct} {c0 : Cf} {W : WX}
/-! ### C(..): a new cell, then __init__ -/
def mkM (k : Nat) (m : List D → M D) (ds : List D) : M D := fun s => match m (.loc s.length :: ds) (s ++ [some (.ins k [])]) with
  | .ok .non s' => .ok (.loc s.length) s'
  | .ok _ _ => .stuck
  | .exc x fs s' => .exc x fs s'
  | .stuck => .stuck
theorem run_makeG {k kr : Nat} {f : Addr} {fd : FuncData} {ps : List Str} {m : List D → M D} {pins : List (Addr × Obj)} {σ : L2.St} {c : Cf} {s : Shared} {Q : VK} {us uz : List Value} {kw : List (Str × Value)} {vz : List V} {dz : List D} (hK : X.K = C.K) (Mo : Mk X.K (C.ca k) f) (F : FnG X.prog X.w C X.mg X.base kr f fd ps m) (room : RoomG (kr + 1) X.A) (tk : Takes X W)
    (I : Inv X pins σ c.H s) (hb : ∀ (s' : Shared) (u : Value), X.K.In s'.heap → BindsTo s' fd ⟨u :: us, kw⟩ (ps.zip (u :: uz))) (rz : Vals vz uz) (wf : WF C c) (dn : DenL C c.G c.ρ dz vz) (hl : (dz.length + 1) = ps.length) (hF : Fn C c (mkM k m dz c.s) (KD C Q) (fun a b H => W a b σ H)) :
    wpAny (model X.prog X.w) X.A (call (.ref (C.ca k)) us kw) (EP X pins σ Q) X.xe s := by
  have nx : c.H (s.heap.objs.size + 1) = none := I.hok.fresh (Nat.le_succ _)
  have ndx : c.H s.heap.objs.size = none := I.hok.fresh (Nat.le_refl _)
  have ne : s.heap.objs.size ≠ s.heap.objs.size + 1 := Nat.ne_of_lt (Nat.lt_succ_self _)
  have I2 := Inv.made (C := C.ca k) I
  -- the configuration with the new cell
  obtain ⟨w1, e1⟩ := lay_frozen (o := .own (s.heap.objs.size + 1)) wf ndx
  have nx1 : (upd c.H s.heap.objs.size (.own (s.heap.objs.size + 1))) (s.heap.objs.size + 1) = none := by rw [upd_ne (Ne.symm ne)]; exact nx
  have n1 := New.of (c0 := c) (c := ⟨upd c.H s.heap.objs.size (.own (s.heap.objs.size + 1)), upd c.G s.heap.objs.size (.own (s.heap.objs.size + 1)), c.ρ, c.s⟩) (p := s.heap.objs.size + 1) (o := .ins (C.ca k) s.heap.objs.size []) (u := .ins k []) e1 w1 nx1 ⟨s.heap.objs.size, [], rfl, upd_same, by simp only [DenF]⟩
  obtain ⟨w2, e2⟩ := lay_new (o := .ins (C.ca k) s.heap.objs.size []) w1 nx1
  obtain ⟨w3, e3, hat⟩ := n1.alloc (e1.trans e2) w2
  have eH : (upd (upd c.H s.heap.objs.size (.own (s.heap.objs.size + 1))) (s.heap.objs.size + 1) (.ins (C.ca k) s.heap.objs.size [])) = (upd (upd c.H s.heap.objs.size (.own (s.heap.objs.size + 1))) (s.heap.objs.size + 1) (.ins (C.ca k) s.heap.objs.size [])) := rfl
  generalize hc3 : (⟨upd (upd c.H s.heap.objs.size (.own (s.heap.objs.size + 1))) (s.heap.objs.size + 1) (.ins (C.ca k) s.heap.objs.size []), upd c.G s.heap.objs.size (.own (s.heap.objs.size + 1)), c.ρ ++ [s.heap.objs.size + 1], c.s ++ [some (.ins k [])]⟩ : Cf) = c3 at w3 e3
  have h3 : c3.H = upd (upd c.H s.heap.objs.size (.own (s.heap.objs.size + 1))) (s.heap.objs.size + 1) (.ins (C.ca k) s.heap.objs.size []) := by rw [← hc3]
  have h3s : c3.s = c.s ++ [some (.ins k [])] := by rw [← hc3]
  have h3r : c3.ρ[c.s.length]? = some (s.heap.objs.size + 1) := by rw [← hc3]; exact hat
  have dl : Den C c3.G c3.ρ (.loc c.s.length) (.ref (s.heap.objs.size + 1)) := ⟨_, rfl, h3r⟩
  have hF3 : Fn C c3 (m (.loc c.s.length :: dz) c3.s) (KD C fun v H => v = .non ∧ Q (.ref (s.heap.objs.size + 1)) H) (fun a b H => W a b σ H) := by
    have hF' : Fn C c (match m (.loc c.s.length :: dz) (c.s ++ [some (.ins k [])]) with
      | .ok .non s' => R.ok (.loc c.s.length) s'
      | .ok _ _ => .stuck
      | .exc x fs s' => .exc x fs s'
      | .stuck => .stuck) (KD C Q) (fun a b H => W a b σ H) := hF
    rw [h3s]
    cases q : m (.loc c.s.length :: dz) (c.s ++ [some (.ins k [])]) with
    | ok d s' =>
      rw [q] at hF'
      cases d <;> first | exact False.elim hF' | skip
      intro c' hs' x' w' v dv
      cases (show v = V.non from dv)
      exact ⟨rfl, hF' c' hs' (e3.trans x') w' _ ⟨_, rfl, x'.pre.get h3r⟩⟩
    | exc x fs s' =>
      rw [q] at hF'
      exact Fn.mono e3 (Fn.excK hF')
    | stuck => rw [q] at hF'; exact False.elim hF'
  rw [← h3] at I2
  have e0 := I2.env0.make (C.ca k) us kw
  rw [hK] at e0
  refine wpAny_call (make_map (f := f) I.kIn Mo.makes Mo.init (beq_iff_eq.mp Mo.fn) (codeAny_mono (F.run _ X.stack _ c3 ⟨Value.ref (s.heap.objs.size + 1) :: us, kw⟩ (Value.ref (s.heap.objs.size + 1) :: uz) (V.ref (s.heap.objs.size + 1) :: vz) (.loc c.s.length :: dz) _ (WE W σ) (room.make (C.ca k) us kw)
    e0 (hb _ _ I2.kIn) (.cons rfl rz) w3 (.cons dl (dn.mono e3.g e3.pre)) (by rw [← hl]; rfl) hF3) fun r s' hq => ?_))
  cases r with
  | error e => exact passAt tk σ pins _ _ e s' I2 hq
  | ok fl =>
    cases fl with
    | ret u =>
      obtain ⟨v, H', I3, rv, ev, q3⟩ := I2.after hq
      subst ev
      exact ⟨rv, ⟨V.ref (s.heap.objs.size + 1), H', I3, rfl, q3⟩⟩
    | next => exact False.elim hq
    | brk => exact False.elim hq
    | cont => exact False.elim hq
/-! ### how keywords are bound -/
structure KBD (C : Ct) (fd : FuncData) (ps : List Str) (n : Nat) (ks : List Str) (gD : List D → List D → List D) : Prop where
  ex : ∃ g gV, KBn C.K fd ps n ks g gV ∧ ∀ G ρ ds zs vs ws, DenL C G ρ ds vs → DenL C G ρ zs ws → ds.length = n → zs.length = ks.length → DenL C G ρ (gD ds zs) (gV vs ws) ∧ (gD ds zs).length = ps.length
/-- keyword arguments -/
structure SK (X : Cx) (C : Ct) (W : WX) (kws : List Keyword) (m : LE → M (List D)) : Prop where
  out : ∃ t, PK X kws t ∧ SimA C W t m
theorem sk_nil : SK X C W [] aNil := ⟨_, pk_nil, fun env σ c Q hR hF => Fn.ok hR.wf hF _ DenL.nil⟩
theorem sk_cons {e : Expr} {nm : Option Str} {kpos : Pos} {kws : List Keyword} {m : LE → M D} {n : LE → M (List D)} (h : SE X C W e m) (k : SK X C W kws n) : SK X C W (⟨nm, e, kpos⟩ :: kws) (aCons m n) := by
  obtain ⟨t, p, s⟩ := h.out
  obtain ⟨u, q, r⟩ := k.out
  refine ⟨_, pk_cons p q, fun env σ c Q hR hF => ?_⟩
  refine s env σ c _ hR (Fn.bind hF fun x c1 e1 w1 hF1 v d1 => ?_)
  refine r env σ c1 _ (hR.ext e1 w1) (Fn.bind hF1 fun ds c2 e2 w2 hF2 vs d2 => ?_)
  exact Fn.ok w2 hF2 _ (.cons (d1.mono e2.g e2.pre) d2)
/-- C(e, ..) -/
def eMake (k n : Nat) (m : List D → M D) (dds : List D) (ma : LE → M (List D)) : LE → M D := fun env => ma env >>= fun ds => guardM (decide ((ds ++ dds).length + 1 = n)) >>= fun _ => mkM k m (ds ++ dds)
def tMakeG (C : Ct) (W : WX) (k n : Nat) (m : List D → M D) (dds : List D) (dvs : List V) (t : TA) : TE := fun σ H Q => t σ H fun vs H1 => ∃ c ds, c.H = H1 ∧ WF C c ∧ DenL C c.G c.ρ ds vs ∧ (ds ++ dds).length + 1 = n ∧ DenL C c.G c.ρ dds dvs ∧ Fn C c (mkM k m (ds ++ dds) c.s) (KD C Q) (fun a b H => W a b σ H)
theorem se_make {k n kr : Nat} {f : Addr} {fd : FuncData} {ps : List Str} {m : List D → M D} {x : Str} {p pos : Pos} {e : Expr} {es : List Expr} {ma : LE → M (List D)} {dds : List D} (Mo : Mk X.K (C.ca k) f) (F : FnG X.prog X.w C X.mg X.base kr f fd ps m) (room : RoomG (kr + 1) X.A) (tk : Takes X W) (hm : X.mg x = some (.ref (C.ca k)))
    (df : Dfl C fd ps dds) (hn : ps.length = n) (ha : SA X C W (e :: es) ma) (hK : X.K = C.K := by rfl) (hg : Gl X x := by rfl) (hdb : (x == ("__debug__" : Str)) = false := by decide) (he : starEach (e :: es) X.env = (false, eval e X.env) :: starEach es X.env := by rfl)
    (hpl : (backTo pos (starEach es X.env)).any (·.1) = false := by rfl) : SE X C W (.Call (.Name x p) (e :: es) [] pos) (eMake k n m dds ma) := by
  subst hn
  obtain ⟨t, pa, sa⟩ := ha.out
  obtain ⟨dvs, dus, dv, db, dd⟩ := df.at'
  refine ⟨tMakeG C W k ps.length m dds dvs t, ⟨fun pins s σ H Q I h => ?_⟩, fun env σ c Q hR hF => ?_⟩
  · refine wpAny_Call_Name_kw (ld_glob I hg hm ?_ hdb)
    refine PySem.W.callWith_K (h₀ := X.base) I.ok.mod.kin Mo.kp (thn (pa.run pos pins s σ H _ I h) fun us s1 z => ?_) he hpl
    obtain ⟨vs, H1, I1, rv, c, ds, rfl, wf, dn, hl, d2, hF⟩ := z
    refine ⟨I1.kIn, ?_⟩
    refine run_makeG (kw := []) (us := us) (uz := us ++ dus) hK Mo F room tk I1 (fun s' u kin => ?_) (rv.append dv) wf (dn.append d2) hl hF
    refine db s' (u :: us) (by rw [← hK]; exact kin) ?_
    rw [← hl, List.length_append, List.length_append, List.length_cons, ← rv.length, ← dv.length, dn.length, d2.length]
    omega
  · refine sa env σ c _ hR (Fn.bind hF fun ds c1 e1 w1 hF1 vs dn => ?_)
    obtain ⟨hz, hF2⟩ := Fn.guard hF1
    exact ⟨c1, ds, rfl, w1, dn, of_decide_eq_true hz, dd _ _, hF2⟩
theorem se_make0 {k n kr : Nat} {f : Addr} {fd : FuncData} {ps : List Str} {m : List D → M D} {x : Str} {p pos : Pos} {dds : List D} (Mo : Mk X.K (C.ca k) f) (F : FnG X.prog X.w C X.mg X.base kr f fd ps m) (room : RoomG (kr + 1) X.A) (tk : Takes X W) (hm : X.mg x = some (.ref (C.ca k)))
    (df : Dfl C fd ps dds) (hn : ps.length = n) (hK : X.K = C.K := by rfl) (hg : Gl X x := by rfl) (hdb : (x == ("__debug__" : Str)) = false := by decide) : SE X C W (.Call (.Name x p) [] [] pos) (eMake k n m dds aNil) := by
  subst hn
  obtain ⟨dvs, dus, dv, db, dd⟩ := df.at'
  refine ⟨tMakeG C W k ps.length m dds dvs tNil, ⟨fun pins s σ H Q I h => ?_⟩, fun env σ c Q hR hF => ?_⟩
  · refine wpAny_Call_Name_kw (ld_glob I hg hm ?_ hdb)
    obtain ⟨c, ds, rfl, wf, dn, hl, d2, hF⟩ := h
    refine PySem.W.callWith_K0 I.kIn Mo.kp ?_
    refine run_makeG (kw := []) (us := []) (uz := [] ++ dus) hK Mo F room tk I (fun s' u kin => ?_) (Vals.append .nil dv) wf (dn.append d2) hl hF
    refine db s' [u] (by rw [← hK]; exact kin) ?_
    rw [← hl, List.length_append, List.length_append, List.length_singleton, ← dv.length, d2.length, ← dn.length]
    show 1 + dds.length = 0 + dds.length + 1
    omega
  · obtain ⟨hz, hF2⟩ := Fn.guard hF
    exact ⟨c, [], rfl, hR.wf, .nil, of_decide_eq_true hz, dd _ _, hF2⟩
/-- C(k = v, ..) -/
def eMakeK (k nk : Nat) (m : List D → M D) (gD : List D → List D → List D) (mk : LE → M (List D)) : LE → M D := fun env => mk env >>= fun zs => guardM (decide (zs.length = nk)) >>= fun _ => mkM k m (gD [] zs)
def tMakeKG (C : Ct) (W : WX) (k nk : Nat) (m : List D → M D) (gD : List D → List D → List D) (tk : TA) : TE := fun σ H Q => tk σ H fun ws H1 => ∃ c zs, c.H = H1 ∧ WF C c ∧ DenL C c.G c.ρ zs ws ∧ zs.length = nk ∧ Fn C c (mkM k m (gD [] zs) c.s) (KD C Q) (fun a b H => W a b σ H)
/-- binding behind self -/
structure KBI (C : Ct) (fd : FuncData) (ps : List Str) (ks : List Str) (gD : List D → List D → List D) : Prop where
  ex : ∃ (g : List Value → List Value) (gV : List V → List V), (∀ (s : Shared) (u : Value) (ws : List Value), C.K.In s.heap → ws.length = ks.length → BindsTo s fd ⟨[u], ks.zip ws⟩ (ps.zip (u :: g ws))) ∧ (∀ {zs : List V} {ws : List Value}, Vals zs ws → Vals (gV zs) (g ws)) ∧
    ∀ G ρ zs ws, DenL C G ρ zs ws → zs.length = ks.length → DenL C G ρ (gD [] zs) (gV ws) ∧ (gD [] zs).length + 1 = ps.length
theorem se_makeK {k nk kr : Nat} {f : Addr} {fd : FuncData} {ps ks : List Str} {m : List D → M D} {x : Str} {p pos : Pos} {kws : List Keyword} {mk : LE → M (List D)} {gD : List D → List D → List D} (Mo : Mk X.K (C.ca k) f) (F : FnG X.prog X.w C X.mg X.base kr f fd ps m) (room : RoomG (kr + 1) X.A) (tk : Takes X W) (hm : X.mg x = some (.ref (C.ca k)))
    (kb : KBI C fd ps ks gD) (hn : ks.length = nk) (hkw : SK X C W kws mk) (hK : X.K = C.K := by rfl) (hg : Gl X x := by rfl)
    (hall : (backToKw pos (keywordEach kws X.env)).all (·.1.isSome) = true := by rfl) (hks : (backToKw pos (keywordEach kws X.env)).filterMap (·.1) = ks := by rfl) (hdb : (x == ("__debug__" : Str)) = false := by decide)
    (hpl : ((backTo pos (starEach [] X.env)).any (·.1) || (backToKw pos (keywordEach kws X.env)).any (·.1.isNone)) = false := by rfl) : SE X C W (.Call (.Name x p) [] kws pos) (eMakeK k nk m gD mk) := by
  subst hn
  obtain ⟨t, pk, sk⟩ := hkw.out
  obtain ⟨g, gV, b1, b2, b3⟩ := kb.ex
  refine ⟨tMakeKG C W k ks.length m gD t, ⟨fun pins s σ H Q I h => ?_⟩, fun env σ c Q hR hF => ?_⟩
  · refine wpAny_Call_Name_kw (ld_glob I hg hm ?_ hdb)
    refine PySem.W.callWith_KW0 (h₀ := X.base) I.ok.mod.kin Mo.kp hall ?_ hpl
    refine thn (pk.run pos pins s σ H _ I h) fun ws s2 z => ?_
    obtain ⟨zs, H2, I2, rz, c, ds, rfl, wf, dn, hl, hF⟩ := z
    refine ⟨I2.kIn, ?_⟩
    rw [hks]
    obtain ⟨d1, d2⟩ := b3 _ _ _ _ dn hl
    exact run_makeG (kw := ks.zip ws) (us := []) (uz := g ws) hK Mo F room tk I2 (fun s' u kin => b1 s' u ws (by rw [← hK]; exact kin) (by rw [← rz.length, dn.length, hl])) (b2 rz) wf d1 d2 hF
  · refine sk env σ c _ hR (Fn.bind hF fun ds c1 e1 w1 hF1 vs dn => ?_)
    obtain ⟨hz, hF2⟩ := Fn.guard hF1
    exact ⟨c1, ds, rfl, w1, dn, of_decide_eq_true hz, hF2⟩
/-- all keywords, in the parameters' order -/
theorem KBI.all {fd : FuncData} {ps ks : List Str} (hl : ks.length + 1 = ps.length) (h : ∀ (u : Value) (ws : List Value), ws.length = ks.length → bindArgs fd ⟨[u], ks.zip ws⟩ = pure (ps.zip (u :: ws))) : KBI C fd ps ks (fun _ zs => zs) :=
  ⟨fun ws => ws, fun zs => zs, fun s u ws _ hw => .of_eq (h u ws hw), fun r => r, fun G ρ zs ws d hz => ⟨d, by omega⟩⟩
/-! ### o.f, a property -/
def eProp (k : Nat) (m : List D → M D) (mo : LE → M D) : LE → M D := fun env => mo env >>= fun x => insM x >>= fun p => guardM (decide (p.1 = k)) >>= fun _ => noX (m [x])
def tPropG (C : Ct) (k : Nat) (m : List D → M D) (to : TE) : TE := fun σ H Q => to σ H fun x H1 => ∃ a dx gs c d, x = .ref a ∧ H1 a = some (.ins (C.ca k) dx gs) ∧ c.H = H1 ∧ WF C c ∧ Den C c.G c.ρ d x ∧ Fn C c (m [d] c.s) (KD C Q) (fun _ _ _ => False)
theorem se_prop {k kr : Nat} {nm : Str} {pr g : Addr} {fd : FuncData} {ps : List Str} {m : List D → M D} {o : Expr} {mo : LE → M D} {pos : Pos} (cl : Cls X.K (C.ca k)) (hp : PropOf X.K (C.ca k) nm pr g) (F : FnG X.prog X.w C X.mg X.base kr g fd ps m) (room : RoomG (kr + 1) X.A)
    (bd : Binds C.K fd ps []) (hn : ps.length = 1) (ho : SE X C W o mo) (hK : X.K = C.K := by rfl) (hab : attributeBase o nm X.env (eval o X.env) = eval o X.env := by rfl) : SE X C W (.Attribute o nm pos) (eProp k m mo) := by
  obtain ⟨to, po, so⟩ := ho.out
  refine ⟨tPropG C k m to, ⟨fun pins s σ H Q I h => ?_⟩, fun env σ c Q hR hF => ?_⟩
  · refine attr_of hab (thn (po.run pins s σ H _ I h) fun u s1 z => ?_)
    obtain ⟨x, H1, I1, rx, a, dx, gs, c, d, ex, ea, rfl, wf, dn, hF⟩ := z
    subst ex
    obtain rfl : u = Value.ref a := rx
    obtain ⟨mA, O, _, _, _, _⟩ := ins_get I1.hok ea
    obtain ⟨od, J, _⟩ := O.look
    obtain ⟨rest, hrec⟩ := hp.rec_
    have I2 := I1.tok (s1.toks + 1)
    have hc : (PySem.W.clsIn X.K (C.ca k)).isSome = true := by
      obtain ⟨cd, hc, _⟩ := PySem.W.any_some cl.hd
      rw [hc]
      rfl
    have e0 := I2.env0.in1
    rw [hK] at e0
    refine PySem.W.get_bind I1.kIn J (PySem.W.plainGet_of (cl.get nm)).1 (PySem.W.findObj_data hc hp.at_ hp.get hp.tak) (PySem.W.plainGet_of (cl.get nm)).2 (wpAny_call (PySem.W.prop_get (s := { s1 with toks := s1.toks + 1 }) I1.kIn hrec ?_))
    refine codeAny_mono (F.run X.A.in1 X.stack { s1 with toks := s1.toks + 1 } c ⟨[.ref a], []⟩ [.ref a] [.ref a] [d] Q (fun _ _ _ => False) room.in1 e0 (bd _ [.ref a] (by rw [← hK]; exact I2.kIn) (by rw [hn]; rfl)) (.cons rfl .nil) wf (.one dn) (by rw [hn]; rfl) hF) fun r s' hq => ?_
    cases r with
    | error er =>
      obtain ⟨_, _, _, _, _, _, _, _, _, _, _, _, z⟩ := hq
      exact False.elim z
    | ok fl =>
      cases fl with
      | ret u =>
        obtain ⟨v, H', I3, rv, q3⟩ := I2.after hq
        show wpAny _ _ (handedOut u) _ _ _
        rw [PySem.W.handedOut_of (handed_of rv)]
        exact wpAny_pure ⟨v, H', I3, rv, q3⟩
      | next => exact False.elim hq
      | brk => exact False.elim hq
      | cont => exact False.elim hq
  · refine so env σ c _ hR (Fn.bind hF fun x c1 e1 w1 hF1 v dn => ?_)
    obtain ⟨i, a, k', fs, dx, gs, rfl, rfl, _, _, hat, _, l, h2⟩ := insM_sim w1 dn hF1
    obtain ⟨hg, h3⟩ := Fn.guard h2
    obtain rfl : k' = k := of_decide_eq_true hg
    refine ⟨a, dx, gs, c1, .loc i, rfl, hat, rfl, w1, dn, ?_⟩
    have h4 : Fn C c1 ((noX (m [.loc i]) >>= fun r => (pure r : M D)) c1.s) (KD C Q) (fun a b H => W a b σ H) := by
      have : (noX (m [.loc i]) >>= fun r => (pure r : M D)) = noX (m [.loc i]) := by
        funext s
        show (noX (m [.loc i]) s).bind (fun r s => R.ok r s) = _
        cases noX (m [.loc i]) s <;> rfl
      rw [this]
      exact h3
    exact Fn.noX h4 fun r c' x' w' h5 => Fn.ok w' (Fn.mono x' h5)
/-! ### ==, an instance to the left -/
/-- what the classes with an own == must have -/
structure EqT (X : Cx) (C : Ct) (kr k : Nat) (m : List D → M D) : Prop where
  ex : ∃ f fd ps, PySem.W.findIn X.K (.ref (C.ca k)) "__eq__" = some (some (.ref f)) ∧ PySem.W.isFn X.K (.ref f) = true ∧ FnG X.prog X.w C X.mg X.base kr f fd ps m ∧ Binds C.K fd ps [] ∧ ps.length = 2
/-- not first: what stands to the right is no instance of a class below -/
structure NotF (K : PySem.W.Frag) (C : Ct) (k : Nat) (oc : Nat → Bool) : Prop where
  bi : ∀ t : Ty0, PySem.W.notFirst K (C.ca k) (.type t.name) = true
  own : ∀ j, oc j = true → InsT K (C.ca j) ∧ PySem.W.notFirst K (C.ca k) (.ref (C.ca j)) = true
def okTy (oc : Nat → Bool) : TyD → Bool
  | .bi _ => true
  | .own j => oc j
def rEqI (C : Ct) (tb : Nat → Option (List D → M D)) (oc : Nat → Bool) : R2 := fun x y H Q => ∃ c k m d e a dx gs, tb k = some m ∧ c.H = H ∧ WF C c ∧ Den C c.G c.ρ d x ∧ Den C c.G c.ρ e y ∧ x = .ref a ∧ H a = some (.ins (C.ca k) dx gs) ∧
  ((∃ t : Ty0, TyX C.K H y (.type t.name)) ∨ ∃ j b dy hs, oc j = true ∧ y = .ref b ∧ H b = some (.ins (C.ca j) dy hs)) ∧ Fn C c (m [d, e] c.s) (KD C fun v H => ∃ b, v = .bl b ∧ Q v H) (fun _ _ _ => False)
theorem op_eqI {tb : Nat → Option (List D → M D)} {oc : Nat → Bool} {kr : Nat} (hK : X.K = C.K) (room : RoomG kr X.A) (T : ∀ k m, tb k = some m → EqT X C kr k m ∧ NotF X.K C k oc) : OpR X (compareOp .Eq) (rEqI C tb oc) := by
  intro pins s σ H x y v u Q I rx ry hq
  obtain ⟨c, k, m, d, e, a, dx, gs, ek, rfl, wf, dd, de, rfl, ha, ty, hF⟩ := hq
  obtain rfl : v = Value.ref a := rx
  obtain ⟨⟨f, fd, ps, hs, hf, F, bd, hl⟩, nf⟩ := T k m ek
  obtain ⟨mA, J, _⟩ := ins_get I.hok ha
  obtain ⟨od, J, _⟩ := J.look
  obtain ⟨mm, hFr⟩ := I.fr
  have e0 := I.env0
  rw [hK] at e0
  have back : wpAny (model X.prog X.w) X.A (call (.ref f) [.ref a, u]) (PySem.W.CmpBack (EP X pins σ Q)) X.xe s := by
    refine wpAny_call (codeAny_mono (F.run X.A X.stack s c ⟨[.ref a, u], []⟩ [.ref a, u] [.ref a, y] [d, e] (fun v H => ∃ b, v = .bl b ∧ Q v H) (fun _ _ _ => False) room e0 (by
      have := bd s [.ref a, u] (by rw [← hK]; exact I.kIn) (by rw [hl]; rfl)
      simpa using this) (.cons rfl (.cons ry .nil)) wf (.cons dd (.one de)) (by rw [hl]; rfl) hF) fun r s' hq => ?_)
    cases r with
    | error er =>
      obtain ⟨_, _, _, _, _, _, _, _, _, _, _, _, z⟩ := hq
      exact False.elim z
    | ok fl =>
      cases fl with
      | ret w =>
        obtain ⟨z, H', I', rz, b, rfl, q⟩ := I.after hq
        obtain rfl : w = Value.bool b := rz
        exact ⟨.bl b, H', I', rfl, q⟩
      | next => exact False.elim hq
      | brk => exact False.elim hq
      | cont => exact False.elim hq
  show wpAny (model X.prog X.w) X.A (richCompare .Eq (.ref a) u) (EP X pins σ Q) X.xe s
  rcases ty with ⟨t, ty⟩ | ⟨j, b, dy, hs', oj, rfl, hb⟩
  · obtain ⟨P, kx, hp, _⟩ := kit_of I ry (by rw [hK]; exact ty)
    exact PySem.W.cmp_K (op := .Eq) room.room.units0 hFr I.ok.mod.kin J (kx.ty _ _ I.kIn hp) (nf.bi t) hs hf back
  · obtain ⟨it, nj⟩ := nf.own j oj
    obtain ⟨P, kx, hp, _⟩ := kit_of (t := .ref (C.ca j)) I ry (.base (.ins hb it.cl it.ha it.hn it.ht it.hm))
    exact PySem.W.cmp_K (op := .Eq) room.room.units0 hFr I.ok.mod.kin J (kx.ty _ _ I.kIn hp) nj hs hf back
/-- the own == of an instance to the left, else what == says of data -/
def oEqI (tb : Nat → Option (List D → M D)) (oc : Nat → Bool) (x y : D) : M D := fun s => match x with
  | .loc n => (match s[n]? with
    | some (some (.ins k _)) => (match tb k with
      | some m => (tyM y >>= fun t => guardM (okTy oc t) >>= fun _ => noX (m [x, y]) >>= fun r => asB r >>= fun b => pure (.bl b)) s
      | none => .stuck)
    | _ => oEqS x y s)
  | _ => oEqS x y s
def rEqW (C : Ct) (tb : Nat → Option (List D → M D)) (oc : Nat → Bool) : R2 := fun x y H Q => rEqU C.K x y H Q ∨ rEqI C tb oc x y H Q
theorem op_eqW {tb : Nat → Option (List D → M D)} {oc : Nat → Bool} {kr : Nat} (hu : X.A.units + 64 < cLine) (hK : X.K = C.K) (room : RoomG kr X.A) (T : ∀ k m, tb k = some m → EqT X C kr k m ∧ NotF X.K C k oc) : OpR X (compareOp .Eq) (rEqW C tb oc) := by
  have h1 : OpR X (compareOp .Eq) (rEqU C.K) := by rw [← hK]; exact op_eqU hu
  exact h1.or (op_eqI hK room T)
theorem s_eqW {tb : Nat → Option (List D → M D)} {oc : Nat → Bool} : SimO C (rEqW C tb oc) (oEqI tb oc) := by
  intro c x y v w Q E wf dx dy hF
  by_cases hx : ∃ n k fs, x = .loc n ∧ c.s[n]? = some (some (.ins k fs))
  · obtain ⟨n, k, fs, rfl, hs⟩ := hx
    refine .inr ?_
    have h1 : Fn C c (match c.s[n]? with
      | some (some (.ins k _)) => (match tb k with
        | some m => (tyM y >>= fun t => guardM (okTy oc t) >>= fun _ => noX (m [.loc n, y]) >>= fun r => asB r >>= fun b => pure (.bl b)) c.s
        | none => .stuck)
      | _ => oEqS (.loc n) y c.s) (KD C Q) E := hF
    rw [hs] at h1
    cases ek : tb k with
    | none => simp only [ek] at h1; exact False.elim h1
    | some m =>
      simp only [ek] at h1
      obtain ⟨a, ho, r1, r2, r3, dx', gs, rfl, g, l⟩ := wf.cel n _ hs
      have dx0 := dx
      obtain ⟨a', rfl, ha'⟩ := dx
      rw [ha'] at r1
      cases r1
      have fin : ∀ t, okTy oc t = true → Fn C c ((guardM (okTy oc t) >>= fun _ => noX (m [.loc n, y]) >>= fun r => asB r >>= fun b => (pure (.bl b) : M D)) c.s) (KD C Q) E → Fn C c (m [.loc n, y] c.s) (KD C fun v H => ∃ b, v = .bl b ∧ Q v H) (fun _ _ _ => False) := fun t ht h => by
        obtain ⟨_, h2⟩ := Fn.guard h
        refine Fn.noX h2 fun r c' x' w' h3 => ?_
        cases r <;> first | exact False.elim h3 | skip
        intro v dv
        cases (show v = _ from dv)
        exact ⟨_, rfl, Fn.ok w' (Fn.mono x' h3) _ rfl⟩
      rcases tyM_sim wf dy h1 with ⟨t, ty, h2⟩ | ⟨j, b, dy', hs', rfl, hb, h2⟩
      · exact ⟨c, k, m, .loc n, y, a, dx', gs, ek, rfl, wf, dx0, dy, rfl, r3, .inl ⟨t, ty⟩, fin (.bi t) rfl h2⟩
      · have oj : oc j = true := (Fn.guard h2).1
        exact ⟨c, k, m, .loc n, y, a, dx', gs, ek, rfl, wf, dx0, dy, rfl, r3, .inr ⟨j, b, dy', hs', oj, rfl, hb⟩, fin (.own j) oj h2⟩
  · refine .inl (s_eqS c x y v w Q E wf dx dy ?_)
    have : oEqI tb oc x y c.s = oEqS x y c.s := by
      cases x <;> first | rfl | skip
      rename_i n
      show (match c.s[n]? with
        | some (some (.ins k _)) => (match tb k with
          | some m => (tyM y >>= fun t => guardM (okTy oc t) >>= fun _ => noX (m [.loc n, y]) >>= fun r => asB r >>= fun b => (pure (.bl b) : M D)) c.s
          | none => .stuck)
        | _ => oEqS (.loc n) y c.s) = _
      split
      · rename_i k fs hs
        exact absurd ⟨n, k, fs, rfl, hs⟩ hx
      · rfl
    rw [← this]
    exact hF
end
end DL
set_option Elab.async false
set_option linter.all false
set_option maxRecDepth 100000
set_option maxHeartbeats 2000000
/-! # Dicts -/
namespace DL
open PySem L2
open PyProof.Rows hiding St
/-! ### keys and pairs -/
def keyD : D → Option Key
  | .int i => some (.inl i)
  | .str z => some (.inr z)
  | _ => none
def keyOf : Key → D
  | .inl i => .int i
  | .inr z => .str z
def valD (kvs : List (Key × D)) (k : Key) : Option D := (kvs.find? fun kv => decide (kv.1 = k)).map (·.2)
def putD (kvs : List (Key × D)) (k : Key) (d : D) : List (Key × D) :=
  if (kvs.any fun kv => decide (kv.1 = k)) = true then kvs.map (fun kv => if kv.1 = k then (kv.1, d) else kv) else kvs ++ [(k, d)]
def mergeD (kvs more : List (Key × D)) : List (Key × D) := more.foldl (fun acc kv => putD acc kv.1 kv.2) kvs
section
variable {C : Ct} {G : Hp} {ρ : List Addr}
theorem keyD_den {d : D} {v : V} {k : Key} (e : keyD d = some k) (h : Den C G ρ d v) : v = kV k := by
  cases d <;> first | (cases e; done) | skip
  all_goals
    cases e
    cases (show v = _ from h)
    rfl
theorem keyOf_den (k : Key) : Den C G ρ (keyOf k) (kV k) := by cases k <;> rfl
theorem DenK.length : ∀ {ks : List (Key × D)} {ws : List (Key × V)}, DenK C G ρ ks ws → ws.length = ks.length
  | [], ws, h => by simp only [DenK] at h; subst h; rfl
  | (k, d) :: r, ws, h => by
    simp only [DenK] at h
    obtain ⟨v, r', rfl, h1, h2⟩ := h
    simp [DenK.length h2]
theorem DenK.val : ∀ {ks : List (Key × D)} {ws : List (Key × V)} (k : Key), DenK C G ρ ks ws → (∀ d, valD ks k = some d → ∃ v, valV ws k = some v ∧ Den C G ρ d v) ∧ (valD ks k = none → valV ws k = none)
  | [], ws, k, h => by
    simp only [DenK] at h
    subst h
    exact ⟨fun d e => (by cases e), fun _ => rfl⟩
  | (j, d) :: r, ws, k, h => by
    simp only [DenK] at h
    obtain ⟨v, r', rfl, h1, h2⟩ := h
    obtain ⟨i1, i2⟩ := DenK.val k h2
    by_cases e : j = k
    · subst e
      have e1 : valD ((j, d) :: r) j = some d := by simp [valD]
      have e2 : valV ((j, v) :: r') j = some v := valV_pos rfl
      rw [e1, e2]
      exact ⟨fun d' q => (by cases q; exact ⟨v, rfl, h1⟩), fun q => (by cases q)⟩
    · have e1 : valD ((j, d) :: r) k = valD r k := by simp [valD, e]
      have e2 : valV ((j, v) :: r') k = valV r' k := by simp [valV, e]
      rw [e1, e2]
      exact ⟨i1, i2⟩
theorem DenK.any : ∀ {ks : List (Key × D)} {ws : List (Key × V)} (k : Key), DenK C G ρ ks ws → (ks.any fun kv => decide (kv.1 = k)) = (ws.any fun kv => decide (kv.1 = k))
  | [], ws, k, h => by simp only [DenK] at h; subst h; rfl
  | (j, d) :: r, ws, k, h => by
    simp only [DenK] at h
    obtain ⟨v, r', rfl, h1, h2⟩ := h
    simp only [List.any_cons, DenK.any k h2]
theorem DenK.append : ∀ {ks ls : List (Key × D)} {ws us : List (Key × V)}, DenK C G ρ ks ws → DenK C G ρ ls us → DenK C G ρ (ks ++ ls) (ws ++ us)
  | [], _, _, _, h, k => by simp only [DenK] at h; subst h; exact k
  | (j, d) :: r, ls, ws, us, h, k => by
    simp only [DenK] at h
    obtain ⟨v, r', rfl, h1, h2⟩ := h
    simp only [List.cons_append, DenK]
    exact ⟨v, _, rfl, h1, DenK.append h2 k⟩
theorem DenK.swap {k : Key} {d : D} {v : V} (dn : Den C G ρ d v) : ∀ {ks : List (Key × D)} {ws : List (Key × V)}, DenK C G ρ ks ws → DenK C G ρ (ks.map fun kv => if kv.1 = k then (kv.1, d) else kv) (ws.map fun kv => if kv.1 = k then (kv.1, v) else kv)
  | [], ws, h => by simp only [DenK] at h; subst h; simp only [List.map_nil, DenK]
  | (j, e) :: r, ws, h => by
    simp only [DenK] at h
    obtain ⟨u, r', rfl, h1, h2⟩ := h
    simp only [List.map_cons]
    by_cases q : j = k
    · rw [if_pos q, if_pos q]
      simp only [DenK]
      exact ⟨v, _, rfl, dn, DenK.swap dn h2⟩
    · rw [if_neg q, if_neg q]
      simp only [DenK]
      exact ⟨u, _, rfl, h1, DenK.swap dn h2⟩
theorem DenK.put {k : Key} {d : D} {v : V} {ks : List (Key × D)} {ws : List (Key × V)} (h : DenK C G ρ ks ws) (dn : Den C G ρ d v) : DenK C G ρ (putD ks k d) (putK ws k v) := by
  unfold putD putK
  rw [← DenK.any k h]
  split
  · exact DenK.swap dn h
  · refine DenK.append h ?_
    simp only [DenK]
    exact ⟨v, [], rfl, dn, rfl⟩
theorem DenK.merge : ∀ {more ks : List (Key × D)} {us ws : List (Key × V)}, DenK C G ρ more us → DenK C G ρ ks ws → DenK C G ρ (mergeD ks more) (mergeK ws us)
  | [], _, us, _, h, k => by simp only [DenK] at h; subst h; exact k
  | (j, d) :: r, ks, us, ws, h, k => by
    simp only [DenK] at h
    obtain ⟨v, r', rfl, h1, h2⟩ := h
    exact DenK.merge (ks := putD ks j d) (ws := putK ws j v) h2 (DenK.put k h1)
end
/-! ### a dict that is read: a value, or a cell -/
def dctM (d : D) : M (List (Key × D)) := match d with
  | .dct kvs => pure kvs
  | .loc n => fun s => match s[n]? with
    | some (some (.dct kvs)) => .ok kvs s
    | _ => .stuck
  | _ => mStuck
/-- the same, also while it is walked -/
def dctR (d : D) : M (List (Key × D)) := match d with
  | .dct kvs => pure kvs
  | .loc n => fun s => match s[n]? with
    | some (some (.dct kvs)) => .ok kvs s
    | some (some (.lk kvs)) => .ok kvs s
    | _ => .stuck
  | _ => mStuck
section
variable {X : Cx} {C : Ct} {c0 : Cf} {W : WX}
theorem dctM_sim {c : Cf} {d : D} {v : V} {β : Type} {f : List (Key × D) → M β} {K : β → Cf → Prop} {E : XK} (w : WF C c) (dn : Den C c.G c.ρ d v) (h : Fn C c ((dctM d >>= f) c.s) K E) :
    ∃ a ws kvs, v = .ref a ∧ c.H a = some (.dK ws) ∧ DenK C c.G c.ρ kvs ws ∧ dctM d c.s = .ok kvs c.s ∧ Fn C c (f kvs c.s) K E := by
  cases d <;> first | exact False.elim h | skip
  · obtain ⟨a, ws, rfl, ha, l⟩ := dn
    exact ⟨a, ws, _, rfl, w.ext _ _ ha, l, rfl, h⟩
  · rename_i n
    obtain ⟨a, rfl, ha⟩ := dn
    have h' : Fn C c (R.bind (match c.s[n]? with
      | some (some (.dct kvs)) => R.ok kvs c.s
      | _ => R.stuck) f) K E := h
    have e0 : dctM (.loc n) c.s = (match c.s[n]? with
      | some (some (.dct kvs)) => R.ok kvs c.s
      | _ => R.stuck) := rfl
    rw [e0]
    cases q : c.s[n]? with
    | none => rw [q] at h'; exact False.elim h'
    | some o =>
      cases o with
      | none => rw [q] at h'; exact False.elim h'
      | some o =>
        obtain ⟨b, ho, r1, r2, r3, r4⟩ := w.cel n o q
        rw [ha] at r1
        cases r1
        rw [q] at h'
        cases o with
        | lst ds => exact False.elim h'
        | ins k fs => exact False.elim h'
        | lk ds => exact False.elim h'
        | dct kvs => obtain ⟨ws, rfl, l⟩ := r4; exact ⟨a, ws, kvs, rfl, r3, l, rfl, h'⟩
theorem dctR_sim {c : Cf} {d : D} {v : V} {β : Type} {f : List (Key × D) → M β} {K : β → Cf → Prop} {E : XK} (w : WF C c) (dn : Den C c.G c.ρ d v) (h : Fn C c ((dctR d >>= f) c.s) K E) :
    ∃ a ws kvs, v = .ref a ∧ L2.Rd c.H a (.dK ws) ∧ DenK C c.G c.ρ kvs ws ∧ dctR d c.s = .ok kvs c.s ∧ Fn C c (f kvs c.s) K E := by
  cases d <;> first | exact False.elim h | skip
  · obtain ⟨a, ws, rfl, ha, l⟩ := dn
    exact ⟨a, ws, _, rfl, .inl (w.ext _ _ ha), l, rfl, h⟩
  · rename_i n
    obtain ⟨a, rfl, ha⟩ := dn
    have h' : Fn C c (R.bind (match c.s[n]? with
      | some (some (.dct kvs)) => R.ok kvs c.s
      | some (some (.lk kvs)) => R.ok kvs c.s
      | _ => R.stuck) f) K E := h
    have e0 : dctR (.loc n) c.s = (match c.s[n]? with
      | some (some (.dct kvs)) => R.ok kvs c.s
      | some (some (.lk kvs)) => R.ok kvs c.s
      | _ => R.stuck) := rfl
    rw [e0]
    cases q : c.s[n]? with
    | none => rw [q] at h'; exact False.elim h'
    | some o =>
      cases o with
      | none => rw [q] at h'; exact False.elim h'
      | some o =>
        obtain ⟨b, ho, r1, r2, r3, r4⟩ := w.cel n o q
        rw [ha] at r1
        cases r1
        rw [q] at h'
        cases o with
        | lst ds => exact False.elim h'
        | ins k fs => exact False.elim h'
        | lk kvs => obtain ⟨oo, ws, rfl, l⟩ := r4; exact ⟨a, ws, kvs, rfl, .inr ⟨oo, r3⟩, l, rfl, h'⟩
        | dct kvs => obtain ⟨ws, rfl, l⟩ := r4; exact ⟨a, ws, kvs, rfl, .inl r3, l, rfl, h'⟩
theorem DGet.rd {H : Hp} {a : Addr} {kvs : List (Key × V)} {k : Key} (e : L2.Rd H a (.dK kvs)) : DGet H a (kV k) (valV kvs k) := .inl ⟨kvs, k, e, rfl, rfl⟩
/-- d[k] of a dict -/
def oDGet (x i : D) : M D := dctR x >>= fun kvs => optM (keyD i) >>= fun k => optM (valD kvs k)
/-- x[i], x a dict or a sequence -/
def oGet (x i : D) : M D := fun s => match dctR x s with
  | .ok _ _ => oDGet x i s
  | _ => oIx x i s
def tGetU (K : PySem.W.Frag) (ta tb : TE) : TE := fun σ H Q => tOp (rIx K) ta tb σ H Q ∨ tDGet ta tb σ H Q
theorem PE.or {e : Expr} {t u : TE} (h : PE X e t) (k : PE X e u) : PE X e (fun σ H Q => t σ H Q ∨ u σ H Q) := ⟨fun pins s σ H Q I q => q.elim (fun q => h.run pins s σ H Q I q) fun q => k.run pins s σ H Q I q⟩
theorem se_get {a b : Expr} {ma mb : LE → M D} {pos : Pos} (hu : X.A.units + 64 < cLine) (ha : SE X C W a ma) (hb : SE X C W b mb) (hK : X.K = C.K := by rfl) (hs : PlainIx b := by exact fun _ _ => rfl) (hs2 : NoSl b := by exact fun _ _ => rfl) : SE X C W (.Subscript a b pos) (eBin oGet ma mb) := by
  obtain ⟨ta, pa, sa⟩ := ha.out
  obtain ⟨tb, pb, sb⟩ := hb.out
  refine ⟨_, PE.or (pe_ix ix_seq pa pb hs) (pe_dget (by omega) pa pb hs2), fun env σ c Q hR hF => ?_⟩
  -- what the mirrors say ahead decides
  have seqW : Fn C c (eBin oIx ma mb env c.s) (KD C Q) (fun a b H => W a b σ H) → (tOp (rIx X.K) ta tb) σ c.H Q := fun h => by
    rw [hK]
    exact sim_op s_ix sa sb env σ c Q hR h
  have dctW : Fn C c (eBin oDGet ma mb env c.s) (KD C Q) (fun a b H => W a b σ H) → tDGet ta tb σ c.H Q := fun h => by
    refine sa env σ c _ hR (Fn.bind h fun x c1 e1 w1 hF1 v d1 => ?_)
    refine sb env σ c1 _ (hR.ext e1 w1) (Fn.bind hF1 fun y c2 e2 w2 hF2 u d2 => ?_)
    obtain ⟨p, ws, kvs, rfl, hp, l, _, h2⟩ := dctR_sim w2 (d1.mono e2.g e2.pre) hF2
    obtain ⟨k, ek, h3⟩ := Fn.optM h2
    obtain ⟨d, ed, h4⟩ := Fn.opt w2 h3
    obtain ⟨z, ez, dz⟩ := (l.val k).1 d ed
    cases keyD_den ek d2
    refine ⟨p, z, rfl, ?_, h4 z dz⟩
    rw [← ez]
    exact DGet.rd hp
  have hF0 : Fn C c (((ma env >>= fun x => mb env >>= fun y => oGet x y) : M D) c.s) (KD C Q) (fun a b H => W a b σ H) := hF
  rw [bind_def] at hF0
  cases q : ma env c.s with
  | stuck => rw [q] at hF0; exact False.elim hF0
  | exc k fs s' =>
    refine .inl (seqW ?_)
    show Fn C c (((ma env >>= fun x => mb env >>= fun y => oIx x y) : M D) c.s) _ _
    rw [bind_def, q]
    rw [q] at hF0
    exact hF0
  | ok x s1 =>
    rw [q] at hF0
    have hF1 : Fn C c (((mb env >>= fun y => oGet x y) : M D) s1) (KD C Q) (fun a b H => W a b σ H) := hF0
    rw [bind_def] at hF1
    cases q2 : mb env s1 with
    | stuck => rw [q2] at hF1; exact False.elim hF1
    | exc k fs s' =>
      refine .inl (seqW ?_)
      show Fn C c (((ma env >>= fun x => mb env >>= fun y => oIx x y) : M D) c.s) _ _
      rw [bind_def, q]
      show Fn C c (((mb env >>= fun y => oIx x y) : M D) s1) _ _
      rw [bind_def, q2]
      rw [q2] at hF1
      exact hF1
    | ok y s2 =>
      rw [q2] at hF1
      have hF2 : Fn C c (oGet x y s2) (KD C Q) (fun a b H => W a b σ H) := hF1
      unfold oGet at hF2
      have fin : ∀ f : D → D → M D, Fn C c (f x y s2) (KD C Q) (fun a b H => W a b σ H) → Fn C c (eBin f ma mb env c.s) (KD C Q) (fun a b H => W a b σ H) := fun f h => by
        show Fn C c (((ma env >>= fun x => mb env >>= fun y => f x y) : M D) c.s) _ _
        rw [bind_def, q]
        show Fn C c (((mb env >>= fun y => f x y) : M D) s1) _ _
        rw [bind_def, q2]
        exact h
      cases q3 : dctR x s2 with
      | ok kvs s3 =>
        rw [q3] at hF2
        exact .inr (dctW (fin oDGet hF2))
      | exc k fs s' =>
        rw [q3] at hF2
        exact .inl (seqW (fin oIx hF2))
      | stuck =>
        rw [q3] at hF2
        exact .inl (seqW (fin oIx hF2))
end
end DL
set_option Elab.async false
set_option linter.all false
set_option maxRecDepth 100000
set_option maxHeartbeats 2000000
/-! # Dicts made -/
namespace DL
open PySem L2
open PyProof.Rows hiding St
section
variable {X : Cx} {C : Ct} {c0 : Cf} {W : WX} {tg : Expr}
/-- a dict in the making, at p, behind b -/
structure Mkd (C : Ct) (b c : Cf) (p : Addr) (kvs : List (Key × D)) : Prop where
  ext : Ext b c
  wf : WF C c
  fresh : b.H p = none
  g : c.G p = none
  r : p ∉ c.ρ
  at' : ∃ ws, c.H p = some (.dK ws) ∧ DenK C c.G c.ρ kvs ws
theorem Mkd.start {b : Cf} {p : Addr} (w : WF C b) (hp : b.H p = none) : Mkd C b ⟨upd b.H p (.dK []), b.G, b.ρ, b.s⟩ p [] := by
  obtain ⟨w2, e2⟩ := lay_new (o := .dK []) w hp
  exact ⟨e2, w2, hp, w.gfree hp, w.rfree hp, [], upd_same, by simp only [DenK]⟩
theorem Mkd.step {b c c' : Cf} {p : Addr} {kvs : List (Key × D)} (h : Mkd C b c p kvs) (e : Ext c c') (w : WF C c') : Mkd C b c' p kvs := by
  obtain ⟨vs, h1, h2⟩ := h.at'
  refine ⟨h.ext.trans e, w, h.fresh, e.fr p h.g (by rw [h1]; simp), ?_, vs, e.kp p _ h1 h.r, h2.mono e.g e.pre⟩
  obtain ⟨m, em, fm⟩ := e.pr
  rw [em]
  intro hm
  rcases List.mem_append.mp hm with hm | hm
  · exact h.r hm
  · have := fm p hm
    rw [h1] at this
    cases this
/-- what is stored anew at p -/
theorem Mkd.write {b c : Cf} {p : Addr} {kvs kvs' : List (Key × D)} {ws' : List (Key × V)} (h : Mkd C b c p kvs) (dn : DenK C c.G c.ρ kvs' ws') : Mkd C b ⟨upd c.H p (.dK ws'), c.G, c.ρ, c.s⟩ p kvs' := by
  have w := h.wf
  refine ⟨⟨h.ext.g, h.ext.fr, fun x u e nx => ?_, fun x dd => ?_, h.ext.pr, fun x z u e => by have ne : x ≠ p := (fun y => by subst y; rw [h.fresh] at e; cases e); show upd c.H p _ x = _; rw [upd_ne ne]; exact h.ext.lk x z u e⟩, ⟨fun x u e => ?_, w.len, w.nd, fun x hx => ?_, fun m u e => ?_⟩, h.fresh, h.g, h.r, _, upd_same, dn⟩
  · have ne : x ≠ p := fun z => by subst z; rw [h.fresh] at e; cases e
    show upd c.H p _ x = some u
    rw [upd_ne ne]
    exact h.ext.kp x u e nx
  · have ne : x ≠ p := fun z => by subst z; exact dd h.fresh
    show upd c.H p _ x ≠ none
    rw [upd_ne ne]
    exact h.ext.dom x dd
  · have ne : x ≠ p := fun z => by subst z; have e' : c.G x = some u := e; rw [h.g] at e'; cases e'
    show upd c.H p _ x = some u
    rw [upd_ne ne]
    exact w.ext x u e
  · have ne : x ≠ p := fun z => by subst z; exact h.r hx
    show upd c.H p _ x ≠ none
    rw [upd_ne ne]
    exact w.dom x hx
  · obtain ⟨x, hx, r1, r2, r3, r4⟩ := w.cel m u e
    have ne : x ≠ p := fun z => by subst z; exact h.r (List.mem_of_getElem? r1)
    exact ⟨x, hx, r1, r2, by show upd c.H p _ x = _; rw [upd_ne ne]; exact r3, r4⟩
/-- the sequel is told from an earlier place on -/
theorem Fn.bindB {c b : Cf} {α β : Type} {m : R α} {f : α → M β} {K1 : α → Cf → Prop} {K : β → Cf → Prop} {E : XK} (e : Ext b c) (h : Fn C b (m.bind f) K E)
    (k : ∀ a c', Ext c c' → WF C c' → Fn C b (f a c'.s) K E → K1 a c') : Fn C c m K1 E := by
  cases m with
  | ok a s' => exact fun c' q x w => k a c' x w (by subst q; exact h)
  | exc k fs s' => exact Fn.mono e (Fn.excK h)
  | stuck => exact h
theorem Fn.okB {c b : Cf} {α : Type} {a : α} {K : α → Cf → Prop} {E : XK} (e : Ext b c) (w : WF C c) (h : Fn C b (.ok a c.s) K E) : K a c := h c rfl e w
theorem Fn.guardB {c : Cf} {s : S} {α : Type} {b : Bool} {f : Unit → M α} {K : α → Cf → Prop} {E : XK} (h : Fn C c ((guardM b >>= f) s) K E) : b = true ∧ Fn C c (f () s) K E := by
  cases b with
  | true => exact ⟨rfl, h⟩
  | false => exact False.elim h
theorem Fn.optB {c : Cf} {s : S} {α β : Type} {o : Option α} {f : α → M β} {K : β → Cf → Prop} {E : XK} (h : Fn C c ((DL.optM o >>= f) s) K E) : ∃ a, o = some a ∧ Fn C c (f a s) K E := by
  cases o with
  | some a => exact ⟨a, rfl, h⟩
  | none => exact False.elim h
/-! ### {k: v, ..} -/
def pNil : LE → M (List (D × D)) := fun _ => pure []
def pCons (mk mv : LE → M D) (n : LE → M (List (D × D))) : LE → M (List (D × D)) := fun env => mk env >>= fun k => mv env >>= fun v => n env >>= fun r => pure ((k, v) :: r)
def pairsOf : List (D × D) → Option (List (Key × D))
  | [] => some []
  | (k, v) :: r => (keyD k).bind fun k => (pairsOf r).map ((k, v) :: ·)
inductive DenP (C : Ct) (G : Hp) (ρ : List Addr) : List (D × D) → List (V × V) → Prop
  | nil : DenP C G ρ [] []
  | cons {k d : D} {u v : V} {r : List (D × D)} {ws : List (V × V)} : Den C G ρ k u → Den C G ρ d v → DenP C G ρ r ws → DenP C G ρ ((k, d) :: r) ((u, v) :: ws)
theorem DenP.pairs {G : Hp} {ρ : List Addr} : ∀ {ps : List (D × D)} {ws : List (V × V)} {kvs : List (Key × D)}, DenP C G ρ ps ws → pairsOf ps = some kvs → ∃ us, ws = us.map (fun kv => (kV kv.1, kv.2)) ∧ DenK C G ρ kvs us
  | _, _, kvs, .nil, e => by
    cases e
    exact ⟨[], rfl, by simp only [DenK]⟩
  | _, _, kvs, .cons (k := k) (v := v) h1 h2 h3, e => by
    obtain ⟨k', e1, e2⟩ := Option.bind_eq_some_iff.mp e
    obtain ⟨qs, e3, rfl⟩ := Option.map_eq_some_iff.mp e2
    obtain ⟨us, rfl, d⟩ := DenP.pairs h3 e3
    cases keyD_den e1 h1
    refine ⟨(k', v) :: us, rfl, ?_⟩
    simp only [DenK]
    exact ⟨v, us, rfl, h2, d⟩
def SimPs (C : Ct) (W : WX) (trs : List (TE × TE)) (m : LE → M (List (D × D))) : Prop :=
  ∀ env σ c Q, Rl C env σ c → Fn C c (m env c.s) (fun ps c' => ∀ ws, DenP C c'.G c'.ρ ps ws → Q ws c'.H) (fun a b H => W a b σ H) → tPairs trs σ c.H Q
structure SPs (X : Cx) (C : Ct) (W : WX) (pos : Pos) (ks : List (Option Expr)) (vs : List Expr) (m : LE → M (List (D × D))) : Prop where
  out : ∃ trs, PPs X pos ks vs trs ∧ SimPs C W trs m
theorem DenP.mono {G G' : Hp} {ρ ρ' : List Addr} (hG : Gr G G') (hρ : Pre ρ ρ') : ∀ {ps : List (D × D)} {ws : List (V × V)}, DenP C G ρ ps ws → DenP C G' ρ' ps ws
  | _, _, .nil => .nil
  | _, _, .cons h1 h2 h3 => .cons (h1.mono hG hρ) (h2.mono hG hρ) (DenP.mono hG hρ h3)
theorem sps_nil {pos : Pos} : SPs X C W pos [] [] pNil := ⟨_, pps_nil, fun env σ c Q hR hF => Fn.ok hR.wf hF _ .nil⟩
theorem sps_cons {pos : Pos} {k v : Expr} {ks : List (Option Expr)} {vs : List Expr} {mk mv : LE → M D} {n : LE → M (List (D × D))} (hk : SE X C W k mk) (hv : SE X C W v mv) (hr : SPs X C W pos ks vs n) : SPs X C W pos (some k :: ks) (v :: vs) (pCons mk mv n) := by
  obtain ⟨tk, pk, sk⟩ := hk.out
  obtain ⟨tv, pv, sv⟩ := hv.out
  obtain ⟨trs, pr, sr⟩ := hr.out
  refine ⟨_, pps_cons pk pv pr, fun env σ c Q hR hF => ?_⟩
  refine sk env σ c _ hR (Fn.bind hF fun x c1 e1 w1 hF1 v d1 => ?_)
  refine sv env σ c1 _ (hR.ext e1 w1) (Fn.bind hF1 fun y c2 e2 w2 hF2 u d2 => ?_)
  refine sr env σ c2 _ ((hR.ext e1 w1).ext e2 w2) (Fn.bind hF2 fun ps c3 e3 w3 hF3 ws d3 => ?_)
  exact Fn.ok w3 hF3 _ (.cons ((d1.mono e2.g e2.pre).mono e3.g e3.pre) (d2.mono e3.g e3.pre) d3)
def nDsp (m : LE → M (List (D × D))) : LE → M O := fun env => m env >>= fun ps => optM (pairsOf ps) >>= fun kvs => guardM (decide (kvs.length ≤ 15)) >>= fun _ => pure (.dct (mergeD [] kvs))
theorem sn_dsp {pos : Pos} {keys : List (Option Expr)} {values : List Expr} {m : LE → M (List (D × D))} (h : SPs X C W pos keys values m) (hall : keys.all (·.isSome) = true := by rfl) (hl : keys.length = values.length := by rfl) (h0 : keys ≠ [] := by exact fun z => by cases z) (h15 : keys.length ≤ 15 := by decide) :
    SN X C W (.Dict keys values pos) (nDsp m) := by
  obtain ⟨trs, p, s⟩ := h.out
  refine ⟨_, pe_disp p hall hl h0 h15, fun env σ c Q hR hF p hp => ?_⟩
  have mk0 := Mkd.start (C := C) hR.wf hp
  refine s env σ ⟨upd c.H p (.dK []), c.G, c.ρ, c.s⟩ _ (hR.ext mk0.ext mk0.wf) (Fn.bindB mk0.ext hF fun ps c1 e1 w1 hF1 ws d1 => ?_)
  have mk1 := mk0.step e1 w1
  obtain ⟨kvs, ek, h2⟩ := Fn.optB hF1
  obtain ⟨hz, h3⟩ := Fn.guardB h2
  obtain ⟨us, rfl, dk⟩ := d1.pairs ek
  obtain ⟨ws0, hp1, d0⟩ := mk1.at'
  simp only [DenK] at d0
  subst d0
  refine ⟨hp1, us, rfl, by rw [dk.length]; exact of_decide_eq_true hz, ?_⟩
  have dm : DenK C c1.G c1.ρ (mergeD [] kvs) (mergeK [] us) := DenK.merge dk (by simp only [DenK])
  have mk2 := mk1.write dm
  exact Fn.okB (c := ⟨upd c1.H p (.dK (mergeK [] us)), c1.G, c1.ρ, c1.s⟩) mk2.ext mk2.wf h3 p ⟨hp, mk2.g, mk2.r, _, upd_same, _, rfl, dm⟩
/-! ### {k: v for ..} -/
def dcM (g : GM) (t : LE → M Bool) (ek ev : LE → M D) (env : LE) : List D → List (Key × D) → M (List (Key × D))
  | [], acc => pure acc
  | d :: ds, acc => match g d env with
    | none => mStuck
    | some env1 => t env1 >>= fun b => if b = true then ek env1 >>= fun x => ev env1 >>= fun y => guardM (szOk acc.length) >>= fun _ => optM (keyD x) >>= fun k => dcM g t ek ev env ds (putD acc k y) else dcM g t ek ev env ds acc
def nDc (mi : LE → M (List D)) (g : GM) (t : LE → M Bool) (ek ev : LE → M D) (own : List Nat) : LE → M O := fun env => mi env >>= fun ds => noX (dcM g t ek ev (wipeE env own) ds []) >>= fun r => pure (.dct r)
theorem sim_dc {wi : TI} {g : TG} {tt : TT} {tk te : TE} {mi : LE → M (List D)} {mg : GM} {is own : List Nat} {mt : LE → M Bool} {mk me : LE → M D} (si : SimI C W wi mi) (sg : SimG C g mg is) (st : SimT C WN tt mt) (sk : SimE C WN tk mk) (se : SimE C WN te me) (sub : ∀ i ∈ is, i ∈ own) :
    SimN C W (tDc wi g tt tk te own) (nDc mi mg mt mk me own) := by
  intro env σ c Q hR hF
  refine si env σ c _ hR (Fn.bind0 hF fun ds c1 e1 w1 hF1 J wk p hp => ?_)
  have R1 := (hR.ext e1 w1).wipe own
  have hF2 : Fn C c1 (dcM mg mt mk me (wipeE env own) ds [] c1.s) (fun r c' => ∀ p', Mkd C c1 c' p' r → Q (.ref p') c'.H) (fun _ _ _ => False) := by
    refine Fn.noX (Fn.mono e1 hF1) fun r c' e' w' hF3 p' mk => ?_
    have e2 := e1.trans e'
    have hk := hF3 c' rfl e' w'
    obtain ⟨vs, h1, h2⟩ := mk.at'
    exact hk p' ⟨e1.free mk.fresh, mk.g, mk.r, _, h1, vs, rfl, h2⟩
  let Inv : Nat → Nat → Hp → Prop := fun i m H => ∃ c2 acc, c2.H = H ∧ Mkd C c1 c2 p acc ∧ m = ds.length - i ∧ i ≤ ds.length ∧ Fn C c1 (dcM mg mt mk me (wipeE env own) (ds.drop i) acc c2.s) (fun r c' => ∀ p', Mkd C c1 c' p' r → Q (.ref p') c'.H) (fun _ _ _ => False)
  refine ⟨Inv, ⟨ds.length, _, [], rfl, .start w1 hp, rfl, Nat.zero_le _, hF2⟩, ?_⟩
  rintro i m H2 ⟨c2, acc, rfl, mk2, rfl, hi, hFi⟩
  obtain ⟨k1, k2⟩ := wk c2 mk2.ext.g mk2.ext.pre mk2.wf mk2.ext.lk i
  cases e : ds[i]? with
  | none =>
    refine .inl ⟨k2 e, ?_⟩
    rw [List.drop_eq_nil_of_le (List.getElem?_eq_none_iff.mp e)] at hFi
    exact hFi c2 rfl mk2.ext mk2.wf p mk2
  | some d =>
    obtain ⟨hlt, hd⟩ := List.getElem?_eq_some_iff.mp e
    have ed : ds.drop i = d :: ds.drop (i + 1) := by rw [List.drop_eq_getElem_cons hlt, hd]
    rw [ed] at hFi
    obtain ⟨go, yld⟩ := k1 d e
    refine .inr ⟨go, fun H' => Inv (i + 1) (ds.length - (i + 1)) H', fun H' z => ⟨_, by omega, z⟩, fun x H3 y => ?_⟩
    obtain ⟨c3, rfl, es3, x3, w3, dn3⟩ := yld x H3 y
    have mk3 := mk2.step x3 w3
    have R3 := R1.ext (mk2.ext.trans x3) w3
    unfold dcM at hFi
    cases eg : mg d (wipeE env own) with
    | none => rw [eg] at hFi; exact False.elim hFi
    | some env3 =>
      rw [eg] at hFi
      refine sg _ _ c3 d x env3 _ R3 dn3 eg fun σ3 R4 S4 => ⟨?_, ?_⟩
      · have hw : L2.wipe (L2.wipe σ own) own = L2.wipe σ own := wipe_same (L2.wipe_length σ own) fun j hj => wipe_get own hj
        rw [← hw]
        exact wipe_same (S4.len) fun j hj => S4.st j fun z => hj (sub j z)
      · have b3 : Ext c1 c3 := mk2.ext.trans x3
        have hFt0 : Fn C c1 ((mt env3 >>= fun b => if b = true then mk env3 >>= fun x => me env3 >>= fun y => guardM (szOk acc.length) >>= fun _ => optM (keyD x) >>= fun k => dcM mg mt mk me (wipeE env own) (ds.drop (i + 1)) (putD acc k y) else dcM mg mt mk me (wipeE env own) (ds.drop (i + 1)) acc) c3.s)
            (fun r c' => ∀ p', Mkd C c1 c' p' r → Q (.ref p') c'.H) (fun _ _ _ => False) := by
          rw [es3]
          exact hFi
        refine st env3 σ3 c3 _ R4 (Fn.bindB b3 hFt0 fun b c4 x4 w4 hF4 => ?_)
        have mk4 := mk3.step x4 w4
        cases b with
        | false => exact iteF ⟨c4, acc, rfl, mk4, rfl, hlt, hF4⟩
        | true =>
          refine iteT ?_
          have hF4' : Fn C c1 ((mk env3 >>= fun x => me env3 >>= fun y => guardM (szOk acc.length) >>= fun _ => optM (keyD x) >>= fun k => dcM mg mt mk me (wipeE env own) (ds.drop (i + 1)) (putD acc k y)) c4.s) (fun r c' => ∀ p', Mkd C c1 c' p' r → Q (.ref p') c'.H) (fun _ _ _ => False) := hF4
          refine sk env3 σ3 c4 _ (R4.ext x4 w4) (Fn.bindB (b3.trans x4) hF4' fun x c5 x5 w5 hF5 u du => ?_)
          refine se env3 σ3 c5 _ ((R4.ext x4 w4).ext x5 w5) (Fn.bindB ((b3.trans x4).trans x5) hF5 fun y c6 x6 w6 hF6 v dv => ?_)
          obtain ⟨hz, h7⟩ := Fn.guardB hF6
          obtain ⟨k, ek, h8⟩ := Fn.optB h7
          have mk6 := (mk4.step x5 w5).step x6 w6
          obtain ⟨ws, h1, h2⟩ := mk6.at'
          have du6 := du.mono x6.g x6.pre
          cases keyD_den ek du6
          exact ⟨ws, k, rfl, h1, by rw [h2.length]; exact szOk_lt hz, ⟨_, _, rfl, mk6.write (h2.put dv), rfl, hlt, h8⟩⟩
theorem sn_dc {kx vx iter : Expr} {ifs : List Expr} {scope : Scope} (own : List (Str × Nat)) (ow : List Nat) {pos : Pos} {mi : LE → M (List D)} {mg : GM} {is : List Nat} {mt : LE → M Bool} {mk me : LE → M D} (ho : own.map (·.2) = ow) (hi : SI X C W tg iter mi) (hN : X.N.Nodup) (ok : blkC X.N X.env.scope scope own = true)
    (hg : ∀ (s : Shared) (H : Hp) (c : Addr) (cl : List (Str × Addr)) (fp : List Addr), SG (X.blk s H scope (compEnvC scope cl c X.env) fp) C tg mg is)
    (ht : ∀ (s : Shared) (H : Hp) (c : Addr) (cl : List (Str × Addr)) (fp : List Addr), STs (X.blk s H scope (compEnvC scope cl c X.env) fp) C WN ifs mt)
    (hk : ∀ (s : Shared) (H : Hp) (c : Addr) (cl : List (Str × Addr)) (fp : List Addr), SE (X.blk s H scope (compEnvC scope cl c X.env) fp) C WN kx mk)
    (he : ∀ (s : Shared) (H : Hp) (c : Addr) (cl : List (Str × Addr)) (fp : List Addr), SE (X.blk s H scope (compEnvC scope cl c X.env) fp) C WN vx me)
    (sub : (is.all fun i => decide (i ∈ own.map (·.2))) = true := by rfl) (hc : X.calm = true := by rfl) (hs : ∀ x, foldedSetIterable iter X.env x = pure x := by intro _; rfl) :
    SN X C W (.DictComp kx vx [⟨tg, iter, ifs, 0⟩] scope pos) (nDc mi mg mt mk me ow) := by
  subst ho
  obtain ⟨wi, pi, si⟩ := hi.out
  exact ⟨_, pe_dc hc hN pi (blkOk_by ok) (fun s H c cl fp => (hg s H c cl fp).canon) (fun s H c cl fp => (ht s H c cl fp).canon) (fun s H c cl fp => (hk s H c cl fp).canon) (fun s H c cl fp => (he s H c cl fp).canon) hs,
    sim_dc si sim_tG sim_tT sim_tE sim_tE fun i hi => of_decide_eq_true (List.all_eq_true.mp sub i hi)⟩
/-! ### list(d.items()), dict(pairs) -/
def nItems (m : LE → M D) : LE → M O := fun env => m env >>= fun d => dctM d >>= fun kvs => pure (.lst (kvs.map fun kv => .tup [keyOf kv.1, kv.2]))
theorem Gr.of_none {G : Hp} {p : Addr} {o : HO} (h : G p = none) : Gr G (upd G p o) := fun a u e => by rw [upd_ne (ne_of_none e h)]; exact e
/-- new objects, all frozen -/
theorem lay_many {c : Cf} {H' : Hp} {p : Addr} {ts : List Addr} (w : WF C c) (keep : ∀ b o, c.H b = some o → H' b = some o) (np : c.H p = none) (nt : ∀ t ∈ ts, c.H t = none) (hpt : p ∉ ts) (hp : H' p ≠ none) :
    WF C ⟨H', fun a => if a ∈ ts then H' a else c.G a, c.ρ, c.s⟩ ∧ Ext c ⟨H', fun a => if a ∈ ts then H' a else c.G a, c.ρ, c.s⟩ := by
  have off : ∀ a, c.H a ≠ none → a ∉ ts := fun a h q => h (nt a q)
  have hG : Gr c.G (fun a => if a ∈ ts then H' a else c.G a) := fun a o e => by
    show (if a ∈ ts then H' a else c.G a) = some o
    rw [if_neg (off a (by rw [w.ext a o e]; simp))]
    exact e
  refine ⟨⟨fun a o e => ?_, w.len, w.nd, fun a ha => ?_, fun n o e => ?_⟩, ⟨hG, fun a g d => ?_, fun a o e _ => keep a o e, fun a d => ?_, ⟨[], by simp⟩, fun a z u e => keep a _ e⟩⟩
  · have e' : (if a ∈ ts then H' a else c.G a) = some o := e
    by_cases q : a ∈ ts
    · rw [if_pos q] at e'; exact e'
    · rw [if_neg q] at e'; exact keep a o (w.ext a o e')
  · intro z
    cases q : c.H a with
    | none => exact w.dom a ha q
    | some o => have z' : H' a = none := z; rw [keep a o q] at z'; cases z'
  · obtain ⟨a, ho, r, g, h, x⟩ := w.cel n o e
    exact ⟨a, ho, r, by show (if a ∈ ts then H' a else c.G a) = none; rw [if_neg (off a (by rw [h]; simp))]; exact g, keep a ho h, x.mono hG (Pre.refl _)⟩
  · show (if a ∈ ts then H' a else c.G a) = none
    rw [if_neg (off a d)]; exact g
  · intro z
    cases q : c.H a with
    | none => exact d q
    | some o => have z' : H' a = none := z; rw [keep a o q] at z'; cases z'
theorem den_items {c : Cf} {G' : Hp} (hg : Gr c.G G') : ∀ {kvs : List (Key × D)} {ws : List (Key × V)} {ts : List Addr}, DenK C c.G c.ρ kvs ws → Paired (fun (t : Addr) (q : Key × V) => G' t = some (.tup [kV q.1, q.2])) ts ws → DenL C G' c.ρ (kvs.map fun kv => .tup [keyOf kv.1, kv.2]) (ts.map V.ref)
  | [], ws, ts, h, p => by
    simp only [DenK] at h
    subst h
    cases p
    exact .nil
  | (k, d) :: r, ws, ts, h, p => by
    simp only [DenK] at h
    obtain ⟨v, r', rfl, h1, h2⟩ := h
    cases p with
    | cons q t =>
      refine .cons ⟨_, _, rfl, SqT.of q, .cons (keyOf_den k) (.one (h1.mono hg (Pre.refl _)))⟩ (den_items hg h2 t)
theorem paired_mem {α β : Type} {F F' : α → β → Prop} : ∀ {xs : List α} {ys : List β}, Paired F xs ys → (∀ x y, x ∈ xs → F x y → F' x y) → Paired F' xs ys
  | _, _, .nil, _ => .nil
  | _, _, .cons h t, k => .cons (k _ _ (by simp) h) (paired_mem t fun x y hx => k x y (List.mem_cons_of_mem _ hx))
theorem sn_items {e : Expr} {m : LE → M D} {p apos cpos pos : Pos} (h : SE X C W e m) (hm : X.mg "list" = none) (hc : X.calm = true := by rfl) (hg : Gl X "list" := by rfl) (hbase : attributeBase e "items" X.env (eval e X.env) = eval e X.env := by rfl) (hline : (apos.endLine == cpos.line) = true := by rfl)
    (hs : starEach [.Call (.Attribute e "items" apos) [] [] cpos] X.env = (false, eval (.Call (.Attribute e "items" apos) [] [] cpos) X.env) :: starEach [] X.env := by rfl) :
    SN X C W (.Call (.Name "list" p) [.Call (.Attribute e "items" apos) [] [] cpos] [] pos) (nItems m) := by
  obtain ⟨t, pe, se⟩ := h.out
  refine ⟨_, LiI.pe_listItems hc pe hg hm bb_list hbase hline hs, fun env σ c Q hR hF => ?_⟩
  refine se env σ c _ hR (Fn.bind0 hF fun d c1 e1 w1 hF1 v dn => ?_)
  have hF1' : Fn C c1 _ _ _ := Fn.mono e1 hF1
  obtain ⟨a, ws, kvs, rfl, ha, l, er, _⟩ := dctM_sim w1 dn hF1'
  rw [bind_def, er] at hF1
  refine ⟨a, ws, rfl, ha, fun H' q ts keep nq nt nqt hq pr => ?_⟩
  obtain ⟨w2, e2⟩ := lay_many (ts := ts) w1 keep nq nt nqt (by rw [hq]; simp)
  have gq : c1.G q = none := w1.gfree nq
  refine hF1 ⟨H', fun a => if a ∈ ts then H' a else c1.G a, c1.ρ, c1.s⟩ rfl (e1.trans e2) w2 q ⟨e1.free nq, ?_, w1.rfree nq, _, hq, _, rfl, ?_⟩
  · show (if q ∈ ts then H' q else c1.G q) = none
    rw [if_neg nqt]; exact gq
  · refine den_items e2.g l (paired_mem pr fun t y ht ht' => ?_)
    show (if t ∈ ts then H' t else c1.G t) = _
    rw [if_pos ht]; exact ht'
/-- the pairs of a list -/
def pairsD : List D → Option (List (Key × D))
  | [] => some []
  | .tup [k, v] :: r => (keyD k).bind fun k => (pairsD r).map ((k, v) :: ·)
  | _ => none
def nDict (d : D) : M O := rdL d >>= fun ds => optM (pairsD ds) >>= fun kvs => pure (.dct (mergeD [] kvs))
theorem pairsD_den {c : Cf} (w : WF C c) : ∀ {ds : List D} {vs : List V} {kvs : List (Key × D)}, DenL C c.G c.ρ ds vs → pairsD ds = some kvs → ∃ (ps : List Addr) (us : List (Key × V)), vs = ps.map V.ref ∧ Paired (fun p kv => SqT C.K c.H p [kV kv.1, kv.2]) ps us ∧ DenK C c.G c.ρ kvs us
  | [], vs, kvs, h, e => by
    cases e
    simp only [DenL] at h
    subst h
    exact ⟨[], [], rfl, .nil, by simp only [DenK]⟩
  | d :: r, vs, kvs, h, e => by
    simp only [DenL] at h
    obtain ⟨v, r', rfl, h1, h2⟩ := h
    unfold pairsD at e
    split at e
    · cases ‹_ = []›
    · rename_i k y r2 heq
      cases heq
      obtain ⟨k', e1, e2⟩ := Option.bind_eq_some_iff.mp e
      obtain ⟨qs, e3, rfl⟩ := Option.map_eq_some_iff.mp e2
      obtain ⟨ps, us, rfl, pr, dk⟩ := pairsD_den w h2 e3
      obtain ⟨a, xs, rfl, hs, l⟩ := h1
      obtain ⟨v1, v2, rfl, d1, d2⟩ := den2 l
      cases keyD_den e1 d1
      refine ⟨a :: ps, (k', v2) :: us, rfl, .cons (w.ext.sqt hs) pr, ?_⟩
      simp only [DenK]
      exact ⟨v2, us, rfl, d2, dk⟩
    · cases e
theorem sn_dictB {K : PySem.W.Frag} (hK : K = C.K) : SimCN C (fun xs H Q => ∃ (a : Addr) (ps : List Addr) (kvs : List (Key × V)), xs = [.ref a] ∧ SqL K H a (ps.map V.ref) ∧ Paired (fun p kv => SqT K H p [kV kv.1, kv.2]) ps kvs ∧ ∀ p, H p = none → Q (.ref p) (upd H p (.dK (mergeK [] kvs)))) (on1 nDict) := simCN1 fun c d v Q E w dn hF => by
  subst hK
  obtain ⟨p, vs, ds, rfl, hq, l, hF2⟩ := rdL_sim w dn hF
  obtain ⟨kvs, ek, h3⟩ := Fn.optM hF2
  obtain ⟨ps, us, rfl, pr, dk⟩ := pairsD_den w l ek
  refine ⟨p, ps, us, rfl, hq, pr, fun q nq => ?_⟩
  obtain ⟨w2, e2⟩ := lay_new (o := .dK (mergeK [] us)) w nq
  exact Fn.ok w2 (Fn.mono e2 h3) q (.of (Ext.refl c) w nq ⟨_, rfl, DenK.merge dk (by simp only [DenK])⟩)
end
end DL
set_option Elab.async false
set_option linter.all false
set_option maxRecDepth 100000
set_option maxHeartbeats 2000000
/-! # Dicts read, stored, compared; places of texts -/
namespace DL
open PySem L2
open PyProof.Rows hiding St
section
variable {X : Cx} {C : Ct} {c0 : Cf} {W : WX} {tg : Expr}
theorem se_dget {a b : Expr} {ma mb : LE → M D} {pos : Pos} (hu : X.A.units + 64 < cLine) (ha : SE X C W a ma) (hb : SE X C W b mb) (hs2 : NoSl b := by exact fun _ _ => rfl) : SE X C W (.Subscript a b pos) (eBin oDGet ma mb) := by
  obtain ⟨ta, pa, sa⟩ := ha.out
  obtain ⟨tb, pb, sb⟩ := hb.out
  refine ⟨_, pe_dget (by omega) pa pb hs2, fun env σ c Q hR h => ?_⟩
  refine sa env σ c _ hR (Fn.bind h fun x c1 e1 w1 hF1 v d1 => ?_)
  refine sb env σ c1 _ (hR.ext e1 w1) (Fn.bind hF1 fun y c2 e2 w2 hF2 u d2 => ?_)
  obtain ⟨p, ws, kvs, rfl, hp, l, _, h2⟩ := dctR_sim w2 (d1.mono e2.g e2.pre) hF2
  obtain ⟨k, ek, h3⟩ := Fn.optM h2
  obtain ⟨d, ed, h4⟩ := Fn.opt w2 h3
  obtain ⟨z, ez, dz⟩ := (l.val k).1 d ed
  cases keyD_den ek d2
  refine ⟨p, z, rfl, ?_, h4 z dz⟩
  rw [← ez]
  exact DGet.rd hp
/-! ### d[k] = e -/
def setDM (o i d : D) (s : S) : Option S := match o with
  | .loc n => (match s[n]? with
    | some (some (.dct kvs)) => (match keyD i with
      | some k => if szOk kvs.length = true then some (s.set n (some (.dct (putD kvs k d)))) else none
      | none => none)
    | _ => none)
  | _ => none
def sDput (mo mi me : LE → M D) : SM := sE me fun d => sE mo fun o => sE mi fun i env s => (setDM o i d s).map fun s' => (.nx env, s')
theorem s1_dput {o i e : Expr} {mo mi me : LE → M D} {pt pos : Pos} (hu : X.A.units + 64 < cLine) (ho : SE X C W o mo) (hi : SE X C W i mi) (he : SE X C W e me) (hs : swapsWith e (some (.Subscript o i pt)) pos.line X.env = pure false := by rfl) : SS1 X C c0 W (.Assign [.Subscript o i pt] e pos) (sDput mo mi me) := by
  obtain ⟨to, po, so⟩ := ho.out
  obtain ⟨ti, pi, si⟩ := hi.out
  obtain ⟨te, pe, se⟩ := he.out
  refine ⟨_, ps_dput (by omega) po pi pe hs, fun env σ c E hR hF => ?_⟩
  refine se env σ c _ hR.rl (hF.fn hR fun d c1 x1 w1 hR1 hF1 v dn => ?_)
  refine so env σ c1 _ hR1.rl (hF1.fn hR1 fun od c2 x2 w2 hR2 hF2 ov don => ?_)
  refine si env σ c2 _ hR2.rl (hF2.fn hR2 fun id c3 x3 w3 hR3 hF3 iv din => ?_)
  cases od <;> first | exact False.elim hF3 | skip
  rename_i n
  have h3 : FS C c0 c3 W E ((match c3.s[n]? with
    | some (some (.dct kvs)) => (match keyD id with
      | some k => if szOk kvs.length = true then some (c3.s.set n (some (.dct (putD kvs k d)))) else none
      | none => none)
    | _ => none).map fun s' => (.nx env, s')) := hF3
  have don3 := don.mono x3.g x3.pre
  obtain ⟨a, rfl, ha3⟩ := don3
  cases q : c3.s[n]? with
  | none => rw [q] at h3; exact False.elim h3
  | some oo =>
    cases oo with
    | none => rw [q] at h3; exact False.elim h3
    | some oo =>
      rw [q] at h3
      cases oo with
      | lst _ => exact False.elim h3
      | ins _ _ => exact False.elim h3
      | lk _ => exact False.elim h3
      | dct kvs =>
        obtain ⟨a', hob, r1, r2, r3, ws, rfl, l⟩ := w3.cel n _ q
        rw [ha3] at r1
        cases r1
        cases ek : keyD id with
        | none => simp only [ek] at h3; exact False.elim h3
        | some k =>
          simp only [ek] at h3
          cases hz : szOk kvs.length with
          | false => rw [hz] at h3; exact False.elim h3
          | true =>
            rw [hz] at h3
            have dn3 := (dn.mono x2.g x2.pre).mono x3.g x3.pre
            cases keyD_den ek din
            obtain ⟨w4, e4⟩ := w3.cell (o' := .dct (putD kvs k d)) (ho' := .dK (putK ws k v)) q ha3 ⟨_, rfl, DenK.put l dn3⟩
            exact ⟨a, _, rfl, DPut.k r3 (by rw [l.length]; exact szOk_lt hz), h3 σ ⟨_, _, _, _⟩ rfl (hR3.step e4 w4) e4.since⟩
/-- the same, the dict a slot's own -/
def sDputO (i : Nat) (mk me : LE → M D) : SM := sE me fun d => fun env s => match env[i]? with
  | some (some (.own (.dct kvs))) => sE mk (fun k env s => match keyD k with
    | some k => if szOk kvs.length = true then some (.nx (env.set i (some (.own (.dct (putD kvs k d))))), s) else none
    | none => none) env s
  | _ => none
theorem s1_dputO (i : Nat) {x : Str} {k e : Expr} {mk me : LE → M D} {px pt pos : Pos} (hu : X.A.units + 64 < cLine) (hk : SE X C W k mk) (he : SE X C W e me) (hN : X.N[i]? = some x := by rfl) (hv : Vis X.env.scope x := by first | exact Or.inl rfl | exact Or.inr (Or.inl rfl) | exact Or.inr (Or.inr rfl))
    (hs : swapsWith e (some (.Subscript (.Name x px) k pt)) pos.line X.env = pure false := by rfl) (hd : (x == ("__debug__" : Str)) = false := by decide) (hcd : (x == ("__classdict__" : Str)) = false := by decide) : SS1 X C c0 W (.Assign [.Subscript (.Name x px) k pt] e pos) (sDputO i mk me) := by
  obtain ⟨tk, pk, sk⟩ := hk.out
  obtain ⟨te, pe, se⟩ := he.out
  refine ⟨_, ps_dput (by omega) (pe_var hN hv hd hcd) pk pe hs, fun env σ c E hR hF => ?_⟩
  refine se env σ c _ hR.rl (hF.fn hR fun d c1 x1 w1 hR1 hF1 v dn => ?_)
  obtain ⟨kvs, hoe, hF2⟩ : ∃ kvs, env[i]? = some (some (.own (.dct kvs))) ∧ FS C c0 c1 W E (sE mk (fun k env s => match keyD k with
    | some k => if szOk kvs.length = true then some (.nx (env.set i (some (.own (.dct (putD kvs k d))))), s) else none
    | none => none) env c1.s) := by
    cases q : env[i]? with
    | none => rw [q] at hF1; exact False.elim hF1
    | some o =>
      cases o with
      | none => rw [q] at hF1; exact False.elim hF1
      | some sd =>
        cases sd with
        | val d => rw [q] at hF1; exact False.elim hF1
        | own u =>
          cases u with
          | dct ds => rw [q] at hF1; exact ⟨ds, rfl, hF1⟩
          | lst ds => rw [q] at hF1; exact False.elim hF1
          | ins a b => rw [q] at hF1; exact False.elim hF1
          | lk a => rw [q] at hF1; exact False.elim hF1
  obtain ⟨a, ho, b1, b2, b3, b4, ws, rfl, l⟩ := hR1.rl.own i _ hoe
  refine ⟨_, b1, sk env σ c1 _ hR1.rl (hF2.fn hR1 fun kd c' x' w' hR' hF' kv dk => ?_)⟩
  obtain ⟨a', ho', b1', b2', b3', b4', ws', rfl, l'⟩ := hR'.rl.own i _ hoe
  rw [b1] at b1'
  cases b1'
  cases ek : keyD kd with
  | none => simp only [ek] at hF'; exact False.elim hF'
  | some k =>
    simp only [ek] at hF'
    cases hz : szOk kvs.length with
    | false => rw [hz] at hF'; exact False.elim hF'
    | true =>
      rw [hz] at hF'
      cases keyD_den ek dk
      exact ⟨a, _, rfl, DPut.k b4' (by rw [l'.length]; exact szOk_lt hz), hF' σ ⟨_, _, _, _⟩ rfl (hR'.write hoe b1 ⟨_, rfl, l'.put (dn.mono x'.g x'.pre)⟩) ⟨Gr.refl _, Pre.refl _, fun x z u e => by have ne : x ≠ a := (fun y => by subst y; rw [b4'] at e; cases e); show upd _ a _ x = _; rw [upd_ne ne]; exact e⟩⟩
/-! ### == of two dicts -/
def dctHits (ls : List (Key × D)) : List (Key × D) → Option Bool
  | [] => some true
  | (k, d) :: r => match valD ls k with
    | none => some false
    | some e => match d.py, e.py with
      | some p, some q => if (SeqAt.shaped p && SeqAt.shaped q) = true then (dctHits ls r).map (PyData.eqv p q && ·) else none
      | _, _ => none
def dctEq (ks ls : List (Key × D)) : Option Bool := if ks.length = ls.length then dctHits ls ks else some false
def rEqDD (C : Ct) : R2 := fun x y H Q => ∃ c a b ks ls us vs r, c.H = H ∧ WF C c ∧ x = .ref a ∧ y = .ref b ∧ H a = some (.dK us) ∧ H b = some (.dK vs) ∧ DenK C c.G c.ρ ks us ∧ DenK C c.G c.ρ ls vs ∧ dctEq ks ls = some r ∧ Q (.bl r) H
theorem RoomG.units65 {k : Nat} {A : Around} (r : RoomG k A) : A.units + 65 < cLine := by have := r.room.un; omega
theorem dct_hits {pins : List (Addr × Obj)} {σ : L2.St} {H : Hp} {s : Shared} {c : Cf} (hK : X.K = C.K) (hu : X.A.units + 65 < cLine) (I : Inv X pins σ H s) (hc : c.H = H) (wf : WF C c) {ls : List (Key × D)} {vs : List (Key × V)} {vb : List (Key × Value)} (dl : DenK C c.G c.ρ ls vs) (rb : L2.KV vs vb) :
    ∀ {ks : List (Key × D)} {us : List (Key × V)} {va : List (Key × Value)} {r : Bool}, DenK C c.G c.ρ ks us → L2.KV us va → dctHits ls ks = some r → PySem.W.KeqHits X.A.in1 s vb va r
  | [], us, va, r, h, ra, e => by
    simp only [DenK] at h
    subst h
    cases ra
    cases e
    exact .nil
  | (k, d) :: t, us, va, r, h, ra, e => by
    simp only [DenK] at h
    obtain ⟨v, us', rfl, h1, h2⟩ := h
    cases ra with
    | @cons _ q _ va' hq ht =>
      obtain ⟨k', v'⟩ := q
      obtain ⟨ek, rv⟩ := hq
      have ek' : k = k' := ek
      subst ek'
      have rv' : RelV v v' := rv
      unfold dctHits at e
      obtain ⟨i1, i2⟩ := dl.val k
      cases q2 : valD ls k with
      | none =>
        rw [q2] at e
        cases e
        have rr : RelO (valV vs k) (valueAt vb k) := rb.val k
        rw [i2 q2] at rr
        exact .miss rr.none_of
      | some y =>
        rw [q2] at e
        obtain ⟨w1, e1, d1⟩ := i1 y q2
        have rr : RelO (some w1) (valueAt vb k) := by rw [← e1]; exact rb.val k
        obtain ⟨u1, hu1, ru1⟩ := rr.some_of
        cases p1 : d.py with
        | none => simp only [p1] at e; cases e
        | some p =>
          cases p2 : y.py with
          | none => simp only [p1, p2] at e; cases e
          | some p' =>
            simp only [p1, p2] at e
            by_cases hs : (SeqAt.shaped p && SeqAt.shaped p') = true
            · rw [if_pos hs] at e
              obtain ⟨b, eb, rfl⟩ := Option.map_eq_some_iff.mp e
              rw [Bool.and_eq_true] at hs
              have g : Gr c.G H := by rw [← hc]; exact wf.ext
              obtain ⟨as, ra1⟩ := Dp.reads I p v v' (by rw [hK]; exact Den.dp g d v p h1 p1) rv'
              obtain ⟨bs, rb1⟩ := Dp.reads I p' w1 u1 (by rw [hK]; exact Den.dp g y w1 p' d1 p2) ru1
              exact .hit hu1 (PySem.W.keq_at ra1 rb1 hs.1 hs.2 (by show X.A.units + 1 + 64 < cLine; omega)) (dct_hits hK hu I hc wf dl rb h2 ht eb)
            · rw [if_neg hs] at e
              cases e
theorem op_eqDD (hK : X.K = C.K) (hu : X.A.units + 65 < cLine) : OpR X (compareOp .Eq) (rEqDD C) := by
  intro pins s σ H x y v u Q I rx ry h
  obtain ⟨c, a, b, ks, ls, us, vs, r, hc, wf, rfl, rfl, ea, eb, dk, dl, er, q⟩ := h
  obtain rfl : v = Value.ref a := rx
  obtain rfl : u = Value.ref b := ry
  obtain ⟨_, ya, va, ra, da⟩ := (show ObjOk X.prog X.w H s.heap a (.dK us) from I.hok a _ ea)
  obtain ⟨_, yb, vb, rb, db⟩ := (show ObjOk X.prog X.w H s.heap b (.dK vs) from I.hok b _ eb)
  have la : va.length = ks.length := by rw [← dk.length]; exact ra.length.symm
  have lb : vb.length = ls.length := by rw [← dl.length]; exact rb.length.symm
  unfold dctEq at er
  by_cases hl : ks.length = ls.length
  · rw [if_pos hl] at er
    exact PySem.W.keq_eq (knd := mixKind X.prog X.w) (r := r) ya yb da db (by omega) (fun _ => dct_hits hK hu I hc wf dl rb dk ra er) (fin_bl I q (by simp [la, lb, hl]))
  · rw [if_neg hl] at er
    cases er
    exact PySem.W.keq_eq (knd := mixKind X.prog X.w) (r := true) ya yb da db (by omega) (fun h => absurd (by rw [← la, ← lb]; exact h) hl) (fin_bl I q (by simp [la, lb, hl]))
/-! ### ==: two dicts, an instance of a class with an own ==, data -/
def isDct (d : D) (s : S) : Bool := match dctM d s with
  | .ok _ _ => true
  | _ => false
def oEqX (tb : Nat → Option (List D → M D)) (oc : Nat → Bool) (x y : D) : M D := fun s => if (isDct x s && isDct y s) = true then (dctM x >>= fun ks => dctM y >>= fun ls => optM (dctEq ks ls) >>= fun b => pure (.bl b)) s else oEqI tb oc x y s
def rEqX (C : Ct) (tb : Nat → Option (List D → M D)) (oc : Nat → Bool) : R2 := fun x y H Q => rEqDD C x y H Q ∨ rEqW C tb oc x y H Q
theorem op_eqX {tb : Nat → Option (List D → M D)} {oc : Nat → Bool} {kr kq : Nat} (roomQ : RoomG kq X.A) (hK : X.K = C.K) (room : RoomG kr X.A) (T : ∀ k m, tb k = some m → EqT X C kr k m ∧ NotF X.K C k oc) : OpR X (compareOp .Eq) (rEqX C tb oc) :=
  (op_eqDD hK roomQ.units65).or (op_eqW roomQ.units hK room T)
theorem s_eqX {tb : Nat → Option (List D → M D)} {oc : Nat → Bool} : SimO C (rEqX C tb oc) (oEqX tb oc) := by
  intro c x y v w Q E wf dx dy hF
  unfold oEqX at hF
  by_cases h : (isDct x c.s && isDct y c.s) = true
  · simp only [h, if_true] at hF
    obtain ⟨a, us, ks, rfl, ha, dk, _, h2⟩ := dctM_sim wf dx hF
    obtain ⟨b, vs, ls, rfl, hb, dl, _, h3⟩ := dctM_sim wf dy h2
    obtain ⟨r, er, h4⟩ := Fn.optM h3
    exact .inl ⟨c, a, b, ks, ls, us, vs, r, rfl, wf, rfl, rfl, ha, hb, dk, dl, er, Fn.ok wf h4 _ rfl⟩
  · simp only [h, if_false, Bool.false_eq_true] at hF
    exact .inr (s_eqW c x y v w Q E wf dx dy hF)
/-! ### places of texts -/
def placeS : List Str → Str → Option Nat
  | [], _ => none
  | y :: r, z => if y = z then some 0 else (placeS r z).map (· + 1)
theorem placeS_at : ∀ {ys : List Str} {z : Str} {j : Nat}, placeS ys z = some j → ys[j]? = some z ∧ ∀ m, m < j → ys[m]? ≠ some z
  | [], z, j, h => by cases h
  | y :: r, z, j, h => by
    unfold placeS at h
    by_cases e : y = z
    · rw [if_pos e] at h
      cases h
      exact ⟨by simp [e], fun m hm => absurd hm (Nat.not_lt_zero m)⟩
    · rw [if_neg e] at h
      obtain ⟨i, hi, rfl⟩ := Option.map_eq_some_iff.mp h
      obtain ⟨h1, h2⟩ := placeS_at hi
      refine ⟨by simpa using h1, fun m hm => ?_⟩
      cases m with
      | zero => simpa using e
      | succ m => simpa using h2 m (by omega)
def oIndex (x y : D) : M D := match y with
  | .str z => rdL x >>= fun ds => optM (strsOf ds) >>= fun ys => optM (placeS ys z) >>= fun j => pure (.int (j : Nat))
  | _ => mStuck
def oIndexT (x y : D) : M D := match x, y with
  | .tup ds, .str z => optM (strsOf ds) >>= fun ys => optM (placeS ys z) >>= fun j => pure (.int (j : Nat))
  | _, _ => mStuck
theorem strsOf_vals {G : Hp} {ρ : List Addr} : ∀ {ds : List D} {ys : List Str} {vs : List V}, strsOf ds = some ys → DenL C G ρ ds vs → vs = ys.map V.str
  | [], ys, vs, e, h => by
    cases e
    simp only [DenL] at h
    subst h
    rfl
  | d :: r, ys, vs, e, h => by
    simp only [DenL] at h
    obtain ⟨v, r', rfl, h1, h2⟩ := h
    cases d <;> first | (cases e; done) | skip
    rename_i z
    have e' : (strsOf r).map (z :: ·) = some ys := e
    obtain ⟨qs, e3, rfl⟩ := Option.map_eq_some_iff.mp e'
    cases (show v = _ from h1)
    rw [strsOf_vals e3 h2]
    rfl
def eIndex (mo me : LE → M D) : LE → M D := fun env => mo env >>= fun x => rdL x >>= fun _ => me env >>= fun y => oIndex x y
theorem flat_strV (ys : List Str) : (ys.map V.str).all flatV = true := by
  rw [List.all_map]
  exact List.all_eq_true.mpr fun _ _ => rfl
theorem se_index {o e : Expr} {mo me : LE → M D} {apos cpos : Pos} (ho : SE X C W o mo) (he : SE X C W e me) (hK : X.K = C.K := by rfl) (hbase : attributeBase o "index" X.env (eval o X.env) = eval o X.env := by rfl)
    (hfew : ((backTo cpos (starEach [e] X.env)).all (fun x => !x.1) && (backToKw cpos (keywordEach [] X.env)).all (fun x => x.1.isSome)
      && decide ([e].length + ([] : List Keyword).length + (if ([] : List Keyword).isEmpty then 0 else 1) < 30)) = true := by rfl)
    (hline : (apos.endLine == cpos.line) = true := by rfl) (hs : starEach [e] X.env = (false, eval e X.env) :: starEach [] X.env := by rfl) (hplain : (backTo cpos (starEach [] X.env)).any (·.1) = false := by rfl) :
    SE X C W (.Call (.Attribute o "index" apos) [e] [] cpos) (eIndex mo me) := by
  obtain ⟨to, po, so⟩ := ho.out
  obtain ⟨te, pe, se⟩ := he.out
  refine ⟨_, pe_bm PySem.F.plainAttrs_list PySem.F.slot_list_index PySem.F.type_list_index mt_index po (pa_cons pe pa_nil hs) hbase hfew hline hs hplain, fun env σ c Q hR hF => ?_⟩
  refine so env σ c _ hR (Fn.bind hF fun x c1 e1 w1 hF1 v d1 => ?_)
  obtain ⟨p, xs, ds, rfl, hq, l, hF2⟩ := rdL_sim w1 d1 hF1
  refine ⟨.inl ⟨rfl, xs, by rw [hK]; exact hq⟩, ?_⟩
  refine se env σ c1 _ (hR.ext e1 w1) (Fn.bind hF2 fun y c2 e2 w2 hF3 u d2 => ?_)
  cases y <;> first | exact False.elim hF3 | skip
  rename_i z
  cases (show u = _ from d2)
  obtain ⟨p', xs', ds', ep, hq', l', hF4⟩ := rdL_sim w2 (d1.mono e2.g e2.pre) hF3
  cases ep
  obtain ⟨ys, ey, hF5⟩ := Fn.optM hF4
  obtain ⟨j, ej, hF6⟩ := Fn.optM hF5
  obtain rfl := strsOf_vals ey l'
  obtain ⟨h1, h2⟩ := placeS_at ej
  refine ⟨p, ys.map V.str, .str z, j, .str z, rfl, rfl, by rw [hK]; exact hq', rfl, flat_strV ys, by rw [List.getElem?_map, h1]; rfl, ?_, fun m z' hm hz' => ?_, Fn.ok w2 hF6 _ rfl⟩
  · show (z == z) = true
    exact beq_self_eq_true z
  · rw [List.getElem?_map] at hz'
    obtain ⟨y, hy, rfl⟩ := Option.map_eq_some_iff.mp hz'
    have ne : y ≠ z := fun q => h2 m hm (by rw [hy, q])
    show (y == z) = false
    exact beq_false_of_ne ne
/-- a tuple of texts of the module -/
structure CtT (C : Ct) (mg : Str → Option Value) (x : Str) (zs : List Str) : Prop where
  at' : ∃ (a : Addr) (o : Obj) (its : Array Value) (n : Nat), mg x = some (.ref a) ∧ C.K.lookup a = some o ∧ o.cls = .type "tuple" ∧ o.dict = none ∧ o.data = .seq its n ∧ its.size ≤ sizeLine ∧ Vals (zs.map V.str) its.toList
theorem CtT.cst {mg : Str → Option Value} {x : Str} {zs : List Str} (h : CtT C mg x zs) : Cst C mg x (.tup (zs.map .str)) := by
  obtain ⟨a, o, its, n, e, l, c, d, q, z, r⟩ := h.at'
  exact ⟨_, e, ⟨.ref a, rfl, fun G ρ => ⟨a, _, rfl, .inr ⟨o, its, n, l, c, q, z, r⟩, denStrs zs⟩⟩⟩
def eIndexT (zs : List Str) (me : LE → M D) : LE → M D := fun env => me env >>= fun y => oIndexT (.tup (zs.map .str)) y
theorem se_indexT {x : Str} {zs : List Str} {e : Expr} {me : LE → M D} {p apos cpos : Pos} (T : CtT C X.mg x zs) (he : SE X C W e me) (hK : X.K = C.K := by rfl) (hg : Gl X x := by rfl) (hdb : (x == ("__debug__" : Str)) = false := by decide) (hbase : attributeBase (.Name x p) "index" X.env (eval (.Name x p) X.env) = eval (.Name x p) X.env := by rfl)
    (hfew : ((backTo cpos (starEach [e] X.env)).all (fun x => !x.1) && (backToKw cpos (keywordEach [] X.env)).all (fun x => x.1.isSome)
      && decide ([e].length + ([] : List Keyword).length + (if ([] : List Keyword).isEmpty then 0 else 1) < 30)) = true := by rfl)
    (hline : (apos.endLine == cpos.line) = true := by rfl) (hs : starEach [e] X.env = (false, eval e X.env) :: starEach [] X.env := by rfl) (hplain : (backTo cpos (starEach [] X.env)).any (·.1) = false := by rfl) :
    SE X C W (.Call (.Attribute (.Name x p) "index" apos) [e] [] cpos) (eIndexT zs me) := by
  obtain ⟨a, o, its, n, em, lk, hc, hd, hq, hz, rv⟩ := T.at'
  obtain ⟨te, pe, se⟩ := he.out
  refine ⟨_, pe_bm PySem.F.plainAttrs_tuple PySem.F.slot_tuple_index PySem.F.type_tuple_index mt_tup_index (pe_glob (v := .ref a) hg em rfl hdb) (pa_cons pe pa_nil hs) hbase hfew hline hs hplain, fun env σ c Q hR hF => ?_⟩
  refine ⟨.inr (.inl ⟨rfl, o, by rw [hK]; exact lk, hc, hd⟩), ?_⟩
  refine se env σ c _ hR (Fn.bind hF fun y c2 e2 w2 hF3 u d2 => ?_)
  cases y <;> first | exact False.elim hF3 | skip
  rename_i z
  cases (show u = _ from d2)
  have hF3' : Fn C c2 ((optM (strsOf (zs.map .str)) >>= fun ys => optM (placeS ys z) >>= fun j => (pure (.int (j : Nat)) : M D)) c2.s) (KD C Q) (fun a b H => W a b σ H) := hF3
  obtain ⟨ys, ey, hF5⟩ := Fn.optM hF3'
  obtain ⟨j, ej, hF6⟩ := Fn.optM hF5
  have ez : zs.map V.str = ys.map V.str := strsOf_vals ey (denStrs (C := C) (G := c2.G) (ρ := c2.ρ) zs)
  obtain ⟨h1, h2⟩ := placeS_at ej
  refine ⟨a, ys, z, j, rfl, rfl, .inr ⟨o, its, n, by rw [hK]; exact lk, hc, hq, hz, by rw [← ez]; exact rv⟩, h1, h2, Fn.ok w2 hF6 _ rfl⟩
end
end DL
set_option Elab.async false
set_option linter.all false
set_option maxRecDepth 100000
set_option maxHeartbeats 2000000
namespace DL
open PySem L2
open PyProof.Rows hiding St
section
variable {X : Cx} {C : Ct} {c0 : Cf} {W : WX}
/-- the table of one class -/
def tbOne (k : Nat) (m : List D → M D) : Nat → Option (List D → M D) := fun j => if j = k then some m else none
theorem eqT_one {kr k : Nat} {f : Addr} {fd : FuncData} {ps : List Str} {m : List D → M D} {oc : Nat → Bool} (hq : PySem.W.findIn X.K (.ref (C.ca k)) "__eq__" = some (some (.ref f))) (hf : PySem.W.isFn X.K (.ref f) = true) (F : FnG X.prog X.w C X.mg X.base kr f fd ps m) (bd : Binds C.K fd ps []) (hl : ps.length = 2) (nf : NotF X.K C k oc) :
    ∀ j m', tbOne k m j = some m' → EqT X C kr j m' ∧ NotF X.K C j oc := fun j m' e => by
  unfold tbOne at e
  by_cases h : j = k
  · rw [if_pos h] at e
    cases e
    subst h
    exact ⟨⟨f, fd, ps, hq, hf, F, bd, hl⟩, nf⟩
  · rw [if_neg h] at e
    cases e
/-- two dicts -/
def oEqDD (x y : D) : M D := dctM x >>= fun ks => dctM y >>= fun ls => optM (dctEq ks ls) >>= fun b => pure (.bl b)
theorem s_eqDD : SimO C (rEqDD C) oEqDD := by
  intro c x y v w Q E wf dx dy hF
  obtain ⟨a, us, ks, rfl, ha, dk, _, h2⟩ := dctM_sim wf dx hF
  obtain ⟨b, vs, ls, rfl, hb, dl, _, h3⟩ := dctM_sim wf dy h2
  obtain ⟨r, er, h4⟩ := Fn.optM h3
  exact ⟨c, a, b, ks, ls, us, vs, r, rfl, wf, rfl, rfl, ha, hb, dk, dl, er, Fn.ok wf h4 _ rfl⟩
end
end DL
set_option Elab.async false
set_option linter.all false
set_option maxRecDepth 100000
set_option maxHeartbeats 2000000
/-! # Sets of texts: what they are, add -/
namespace DL
open PySem L2 PySem.Froz
open PyProof.Rows hiding St
/-! ## lists -/
theorem nodup_perm {α : Type} [DecidableEq α] : ∀ {l m : List α}, l.Nodup → (∀ x ∈ l, x ∈ m) → m.length ≤ l.length → l.Perm m
  | [], m, _, _, h => by
    have : m = [] := List.eq_nil_of_length_eq_zero (by simpa using h)
    subst this
    exact .nil
  | x :: l, m, nd, hs, hl => by
    have hx : x ∈ m := hs x (by simp)
    have q := List.perm_cons_erase hx
    have nx := List.nodup_cons.mp nd
    refine (List.Perm.cons x (nodup_perm nx.2 (fun y hy => ?_) ?_)).trans q.symm
    · exact (List.mem_erase_of_ne fun z => nx.1 (by rw [← z]; exact hy)).mpr (hs y (List.mem_cons_of_mem _ hy))
    · have := q.length_eq
      simp only [List.length_cons] at this hl
      omega
/-- one more -/
def addS (l : List Str) (k : Str) : List Str := if k ∈ l then l else k :: l
theorem addS_nodup {l : List Str} (h : l.Nodup) (k : Str) : (addS l k).Nodup := by
  unfold addS
  split
  · exact h
  · rename_i q
    exact List.nodup_cons.mpr ⟨q, h⟩
theorem addS_len (l : List Str) (k : Str) : (addS l k).length ≤ l.length + 1 := by
  unfold addS
  split
  · omega
  · simp
/-! ## the set at a place -/
/-- the set of texts at a: its payload holds l, its table can be walked -/
def STx (P : Program) (w : World) (h : Heap) (a : Addr) (l : List Str) : Prop :=
  ∃ D : Froz.SD, h.get? a = some (sObj "set" D) ∧ TxOk P w D l ∧ l.Nodup ∧ Ris D.2.2.place.toList ∧ (w.params.followText "set-order" = true ∨ D.2.2.led = true)
section
variable {P : Program} {w : World} {h h' : Heap} {a : Addr} {l : List Str}
theorem STx.mv (R : STx P w h a l) (k : ∀ o, h.get? a = some o → h'.get? a = some o) : STx P w h' a l := by
  obtain ⟨D, ho, r⟩ := R
  exact ⟨D, k _ ho, r⟩
theorem STx.there (R : STx P w h a l) : ∃ o, h.get? a = some o := by
  obtain ⟨D, ho, _⟩ := R
  exact ⟨_, ho⟩
theorem tail_ris {ep : Nat} {es1 : Array (Int × Value)} {t2 : SetTable} {b : Bool} (r : Ris t2.place.toList) : Ris (tailTx ep es1 t2 b).2.2.place.toList := by
  unfold tailTx
  split
  · exact relayAll_ris t2 es1 _
  · exact r
theorem tail_led {ep : Nat} {es1 : Array (Int × Value)} {t2 : SetTable} {b : Bool} : (tailTx ep es1 t2 b).2.2.led = t2.led := by
  unfold tailTx
  split
  · exact relayAll_led t2 es1 _
  · rfl
theorem addTx_ris {D : Froz.SD} {k : Int} {v : Value} (r : Ris D.2.2.place.toList) : Ris (addTx k v D).2.2.place.toList := by
  have q := layNew_ris D.2.2 D.1 k v r
  refine tail_ris ?_
  split <;> exact q
theorem addTx_led {D : Froz.SD} {k : Int} {v : Value} : (addTx k v D).2.2.led = D.2.2.led := by
  have q := layNew_led D.2.2 D.1 k v
  refine tail_led.trans ?_
  split <;> exact q
variable {A : Around} {E : Value → Shared → Prop} {s : Shared}
/-- a text that is there already -/
theorem add_there {D : Froz.SD} {k : Str} {u : Tok} {Q : Bool → Shared → Prop} (ho : s.heap.get? a = some (sObj "set" D)) (F : TxOk P w D l) (hk : k ∈ l) (hb : l.length < scanBound) (q : Q false s) : wpAny (model P w) A (setAddHashed a (.str k u) (hashStr w k)) Q E s := by
  obtain ⟨es, ep, t⟩ := D
  have hd : (sObj "set" (es, ep, t)).data = .set es ep t := rfl
  have kk : (PySem.strKind P w).is k (.str k u) = true := is_str k u
  have el : ElemsOf (PySem.strKind P w) es.toList := F.el
  have fit : t.fits es.size = true := F.fit
  have sz : es.size < scanBound := by have : es.size = l.length := F.sz; omega
  obtain ⟨j, hj⟩ : ∃ j, List.findIdx? (fun e => (PySem.strKind P w).is k e.2) es.toList = some j := by
    cases e : List.findIdx? (fun e => (PySem.strKind P w).is k e.2) es.toList with
    | some j => exact ⟨j, rfl⟩
    | none =>
      obtain ⟨x, hx, hz⟩ := (F.mem k).mp hk
      have := List.findIdx?_eq_none_iff.mp e x hx
      rw [hz] at this
      cases this
  unfold setAddHashed setAddHashedIn
  refine wpAny_holding (wpAny_bind (wpAny_setState_of ho hd fit ?_))
  dsimp only
  rw [byScan_of rfl sz el, if_pos rfl]
  unfold setAddByScan
  refine wpAny_bind (wpAny_bind (wpAny_rule (wpAny_bind (wpAny_setScan_of (knd := PySem.strKind P w) (k := k) kk ho hd fit el ?_))))
  rw [hj]
  exact wpAny_pure (wpAny_pure q)
/-- a.add(k) -/
theorem STx.add {k : Str} {u : Tok} {Q : Value → Shared → Prop} (R : STx P w s.heap a l) (room : l.length + 1 < scanBound)
    (q : ∀ h', Heap.SameBut a s.heap h' → STx P w h' a (addS l k) → Q .none { s with heap := h', toks := s.toks + 1 }) : wpAny (model P w) A (call (.builtin "set.add") [.ref a, .str k u]) Q E s := by
  obtain ⟨D, ho, F, nd, r, ld⟩ := R
  have hT : s.TypeIs (.ref a) "set" := ⟨_, ho, rfl⟩
  refine wpAny_call_entry PySem.F.slot_set_add hT PySem.F.entry_set_add ?_ (PySem.F.args_set_add_2 _ _)
  unfold Builtin.«set.add» Builtin.Frozenset.oneOther
  simp only [List.isEmpty_nil, bind_assoc]
  unfold Builtin.Frozenset.addrOf setAdd
  refine wpAny_bind (wpAny_pure ?_)
  try dsimp only
  refine wpAny_bind (wpAny_pure ?_)
  try dsimp only
  refine wpAny_bind (wpAny_holding (wpAny_bind ((PySem.strKind P w).pyHash (k := k) (is_str k u) ?_)))
  have fin : ∀ (b : Bool) (h' : Heap), Heap.SameBut a s.heap h' → STx P w h' a (addS l k) → (fun (_ : Bool) (t : Shared) => wpAny (model P w) A.in1 (ret Value.none) (fun r z => ∃ v, r = .done (.ret v) ∧ Q v z) E t) b { s with heap := h', toks := s.toks + 1 } := fun b h' sb z => wpAny_pure ⟨_, rfl, q h' sb z⟩
  by_cases hk : k ∈ l
  · refine add_there (s := { s with toks := s.toks + 1 }) ho F hk (by omega) ?_
    have z := fin false s.heap (Heap.SameBut.refl a s.heap) ⟨D, ho, by unfold addS; rw [if_pos hk]; exact ⟨F, nd, r, ld⟩⟩
    exact z
  · refine add_x (s := { s with toks := s.toks + 1 }) ho F hk room ?_
    refine fin true _ (Heap.SameBut.update s.heap a _) ⟨addTx (hashStr w k) (.str k u) D, get_upd _ ho rfl, ?_⟩
    unfold addS
    rw [if_neg hk]
    exact ⟨add_ok u F, List.nodup_cons.mpr ⟨hk, nd⟩, addTx_ris r, ld.imp id fun z => addTx_led.trans z⟩
/-- a new one -/
theorem STx.new {h : Heap} (P : Program) (w : World) : STx P w (h.push { cls := .type "set", dict := none, data := .set #[] 0 (.fresh 0 0 (!w.params.followText "set-order")) }) h.objs.size [] := by
  refine ⟨(#[], 0, .fresh 0 0 (!w.params.followText "set-order")), Heap.get?_push_size _ rfl, .nil rfl, List.nodup_nil, List.Pairwise.nil, ?_⟩
  cases w.params.followText "set-order" with
  | true => exact .inl rfl
  | false => exact .inr rfl
/-- sorted(a) -/
theorem STx.sorted {Q : Value → Shared → Prop} (R : STx P w s.heap a l) (hh : A.handled = none) (hb : l.length < scanBound)
    (q : ∀ s' p (out : Array Value) (c : Nat) (ss : List Str), (∀ b o, s.heap.get? b = some o → s'.heap.get? b = some o) → s'.gens = s.gens → s'.os = s.os → s.heap.objs.size ≤ p → s'.heap.get? p = some (seqObj "list" out c) → StrsAre out.toList ss → ss.Perm l → sortedS ss = true → Q (.ref p) s') :
    wpAny (model P w) A (call (.builtin "sorted") [.ref a]) Q E s := by
  obtain ⟨⟨es, ep, t⟩, ho, F, nd, r, ld⟩ := R
  have sz : es.size = l.length := F.sz
  have fit : t.fits es.size = true := F.fit
  refine Calls.call_function_entry kind_sorted plain_sorted entry_sorted (args_sorted1 _) ?_
  unfold Builtin.«sorted»
  refine wpAny_bind (m := checkCount "sorted" 1 1 _) (wpAny_pure ?_)
  refine wpAny_bind (collect_set (A := A.in1) (es := es) (ep := ep) (t := t) hh ⟨_, ho, rfl, rfl⟩ fit (show es.size < scanBound by omega) r ld fun s1 vs k1 hz g1 o1 pm => ?_)
  have isS : ∀ v ∈ vs, ∃ x u, v = Value.str x u := fun v hv => by
    obtain ⟨e, he, rfl⟩ := List.mem_map.mp (pm.mem_iff.mp hv)
    obtain ⟨⟨k, h1, _⟩, _⟩ := F.el e he
    obtain ⟨u, hu⟩ := Value.isStrOf_shape h1
    exact ⟨k, u, hu⟩
  have hS : StrsAre vs (vs.map strOf) := strsAre_map vs isS
  have vl : vs.length = l.length := by rw [pm.length_eq, List.length_map, Array.length_toList]; exact sz
  have pl : (vs.map strOf).Perm l := by
    refine (nodup_perm nd (fun x hx => ?_) (by rw [List.length_map, vl] <;> omega)).symm
    obtain ⟨e, he, h1⟩ := (F.mem x).mp hx
    obtain ⟨u, hu⟩ := Value.isStrOf_shape h1
    exact List.mem_map.mpr ⟨e.2, pm.mem_iff.mpr (List.mem_map.mpr ⟨e, he, rfl⟩), by rw [hu]; rfl⟩
  have hL : vs.length ≤ sizeLine := by rw [vl]; exact fits_of_scanBound hb
  refine wpAny_bind (wpAny_newList ?_ hL)
  have hoL : (s1.heap.push (seqObj "list" vs.toArray 0)).get? s1.heap.objs.size = some (seqObj "list" vs.toArray 0) := Heap.get?_push_size _ rfl
  refine wpAny_bind (wpAny_holding (wpAny_call_entry slot_list_sort ⟨_, hoL, rfl⟩ entry_list_sort (list_sort_treeKAny strKind_oneLt hoL hS.keysOf (fun v₁ v₂ rest e => keyKind_strs (by rw [← e]; exact hS)) hL fun st' a1 a2 => ⟨_, rfl, ?_⟩) (args_list_sort _)))
  obtain ⟨ss, b1, b2, b3⟩ := sorted_out_str hS a1 a2
  obtain ⟨c, hc⟩ := sortedHeap_at (vs := vs) (out := (arrOf st').map (·.2)) hoL
  refine wpAny_pure ⟨_, rfl, q _ s1.heap.objs.size _ c ss (fun b u e => ?_) g1 o1 hz hc b1 (b2.trans pl) b3⟩
  have e' := k1 b u e
  have lt := Heap.lt_size e'
  show (sortedHeap (s1.heap.push (seqObj "list" vs.toArray 0)) s1.heap.objs.size vs ((arrOf st').map (·.2))).get? b = some u
  rw [sortedHeap_old (Nat.ne_of_lt lt) (by rw [size_push']; exact Nat.lt_succ_of_lt lt)]
  exact Heap.get?_push_of_some _ e'
end
end DL
set_option Elab.async false
set_option linter.all false
set_option maxRecDepth 100000
set_option maxHeartbeats 2000000
/-! # Sets of texts: as things that are kept track of, comprehensions, sorted -/
noncomputable section
namespace DL
open PySem L2 PySem.Froz PySem.Spec
open PyProof.Rows hiding St
/-- the set of the texts l at a -/
def SetTO (P : Program) (w : World) (a : Addr) (l : List Str) : HO := .ext fun h => STx P w h a l
theorem setTO_new {w : World} {P : Program} {H : Hp} {h : Heap} {a : Addr} {l : List Str} (R : STx P w h a l) : ObjOk P w H h a (SetTO P w a l) := ⟨R, R.there, fun _ _ z k => STx.mv z k⟩
section
variable {X : Cx}
theorem setTO_get {pins : List (Addr × Obj)} {σ : L2.St} {H : Hp} {s : Shared} {a : Addr} {l : List Str} (I : Inv X pins σ H s) (ha : H a = some (SetTO X.prog X.w a l)) : STx X.prog X.w s.heap a l := (I.hok a _ ha).1
theorem addT_ok {pins : List (Addr × Obj)} {σ : L2.St} {H : Hp} {s : Shared} {E : Value → Shared → Prop} {a : Addr} {l : List Str} {k : Str} {u : Tok} {Q : Value → Shared → Prop} (I : Inv X pins σ H s) (ha : H a = some (SetTO X.prog X.w a l)) (room : l.length + 1 < scanBound)
    (q : ∀ s', Inv X pins σ (upd H a (SetTO X.prog X.w a (addS l k))) s' → Q .none s') : wpAny (model X.prog X.w) X.A (call (.builtin "set.add") [.ref a, .str k u]) Q E s :=
  (setTO_get I ha).add room fun h' sb R => q _ (I.write (e := a) (t' := s.toks + 1) (by rw [ha]; trivial) (.inl rfl) (fun b o hb e => (sb.2 b hb).trans e) R.there (setTO_new R))
/-- {elt for target in iter if ..}, elt a text: p the new set -/
def tSct (P : Program) (w : World) (wi : TI) (g : TG) (tt : TT) (te : TE) (vs : List Nat) : TE := fun σ H Q => wi σ H fun J H1 => ∀ p, H1 p = none → ∃ W : Nat → Nat → Hp → Prop, (∃ m, W 0 m (upd H1 p (SetTO P w p []))) ∧ ∀ i m H, W i m H →
  (J.stop i H ∧ Q (.ref p) H) ∨ (J.go i H ∧ ∃ N : Hp → Prop, (∀ H', N H' → ∃ m', m' < m ∧ W (i + 1) m' H') ∧ ∀ x H', J.yld i H x H' → g x (wipe σ vs) H' fun σ2 H2 => wipe σ2 vs = wipe σ vs ∧ tt σ2 H2 fun b H3 =>
    if b = true then te σ2 H3 fun y H4 => ∃ (k : Str) (l : List Str), y = .str k ∧ H4 p = some (SetTO P w p l) ∧ l.length + 1 < scanBound ∧ N (upd H4 p (SetTO P w p (addS l k))) else N H3)
theorem pe_sct {elt tg iter : Expr} {ifs : List Expr} {scope : Scope} {own : List (Str × Nat)} {pos : Pos} {wi : TI} {g : TG} {tt : TT} {te : TE} (cm : X.calm = true) (nd : X.N.Nodup) (pit : PI X tg iter wi) (bo : BlkOk X.N X.env.scope scope own)
    (kg : ∀ (s : Shared) (H : Hp) (c : Addr) (cl : List (Str × Addr)) (fp : List Addr), PG (X.blk s H scope (compEnvC scope cl c X.env) fp) tg g)
    (kt : ∀ (s : Shared) (H : Hp) (c : Addr) (cl : List (Str × Addr)) (fp : List Addr), PTs (X.blk s H scope (compEnvC scope cl c X.env) fp) ifs tt)
    (ke : ∀ (s : Shared) (H : Hp) (c : Addr) (cl : List (Str × Addr)) (fp : List Addr), PE (X.blk s H scope (compEnvC scope cl c X.env) fp) elt te)
    (hs : ∀ x, foldedSetIterable iter X.env x = pure x := by intro _; rfl) : PE X (.SetComp elt [⟨tg, iter, ifs, 0⟩] scope pos) (tSct X.prog X.w wi g tt te (own.map (·.2))) := by
  refine ⟨fun pins s σ H Q I h => ?_⟩
  rw [PpSet.eval_SetComp]
  have fr : ∀ y ∈ scope.names, y.2 = .free → ∃ c, X.env.cells.lookup y.1 = some c := fun y hy e => (bo.free y hy e).elim (fun k => I.ok.has _ (.inl k)) fun k => I.ok.has _ (.inr k)
  refine wpAny_comprehension_free (use := none) rfl hs (closure_ok fr) bo.kind (fun y hy e => by rw [bo.uniq y hy, e]) (thn (pit.run pins s σ H _ I h) fun xv s1 hx => thn hx fun itv s2 z => ?_)
  obtain ⟨it, fp, tn, J, Ha, ez, Ia, Tw, s0, fa, q⟩ := z
  subst ez
  refine PpSet.newSet_ok (newEnv_comp ?_)
  obtain ⟨p, hp⟩ : ∃ p, s2.heap.objs.size = p := ⟨_, rfl⟩
  have pn : Ha p = none := Ia.hok.fresh (Nat.le_of_eq hp)
  obtain ⟨Wk, ⟨m0, w0⟩, turn⟩ := q p pn
  obtain ⟨ob, hob⟩ : ∃ ob : Obj, ({ cls := .type "set", dict := none, data := .set #[] 0 (.fresh 0 0 (!X.w.params.followText "set-order")) } : Obj) = ob := ⟨_, rfl⟩
  have hnew : STx X.prog X.w (s2.heap.push ob) s2.heap.objs.size [] := by rw [← hob]; exact STx.new X.prog X.w
  rw [hob, hp]
  obtain ⟨sb, hsb⟩ : ∃ sb : Shared, ({ s2 with heap := s2.heap.push ob } : Shared) = sb := ⟨_, rfl⟩
  obtain ⟨Hb, hHb⟩ : ∃ Hb, upd Ha p (SetTO X.prog X.w p []) = Hb := ⟨_, rfl⟩
  have heb : sb.heap = s2.heap.push ob := by rw [← hsb]
  have Ib : Inv X pins σ Hb sb := by
    rw [← hHb, ← hsb]
    refine Ia.laid (t' := s2.toks) (fun b o e => Heap.get?_push_of_some _ e) (Nat.le_of_eq hp) ?_
    rw [← hp]
    exact setTO_new hnew
  have lt : ∀ b ∈ fp, b < s2.heap.objs.size := fun b hb => (Tw.obj _ _ s0 b hb).elim fun o e => Heap.lt_size e.1
  have fb : ∀ b ∈ fp, FpOk X pins Hb b ∧ b < sb.heap.objs.size := fun b hb => by
    refine ⟨⟨?_, (fa b hb).2⟩, by rw [heb, Heap.size_push]; exact Nat.lt_succ_of_lt (lt b hb)⟩
    rw [← hHb, upd_ne (by rw [← hp]; exact Nat.ne_of_lt (lt b hb))]
    exact (fa b hb).1
  have t0 : tn 0 sb.heap := Tw.keep _ _ _ s0 fun b _ o e => by rw [heb]; exact Heap.get?_push_of_some _ e
  have Ic := block_start Ib bo nd fb
  have pg := kg sb Hb sb.heap.objs.size (cellsFrom (sb.heap.objs.size + 1) scope.names (cloFrom X.env.cells scope.names [])) fp
  have pt := kt sb Hb sb.heap.objs.size (cellsFrom (sb.heap.objs.size + 1) scope.names (cloFrom X.env.cells scope.names [])) fp
  have pe := ke sb Hb sb.heap.objs.size (cellsFrom (sb.heap.objs.size + 1) scope.names (cloFrom X.env.cells scope.names [])) fp
  rw [hsb]
  show codeAny _ _ (.compStart (.SetComp elt [⟨tg, iter, ifs, 0⟩] scope pos) 0 (.ref it) (.ref p) (compEnvC scope (cellsFrom (sb.heap.objs.size + 1) scope.names (cloFrom X.env.cells scope.names [])) sb.heap.objs.size X.env)) (compPost (model X.prog X.w) X.A X.xe none (EP X pins σ Q) (.ref p) sb.heap.objs.size) { sb with heap := pushCells (sb.heap.push { cls := .type "dict", data := .dict #[] }) scope.names }
  have fn0 : ∀ b ∈ fp, Hb b = none := fun b hb => (fb b hb).1.1
  obtain ⟨ce, hce⟩ : ∃ ce, compEnvC scope (cellsFrom (sb.heap.objs.size + 1) scope.names (cloFrom X.env.cells scope.names [])) sb.heap.objs.size X.env = ce := ⟨_, rfl⟩
  have lc : ce.locals = sb.heap.objs.size := by rw [← hce]; rfl
  rw [hce] at Ic pg pt pe ⊢
  obtain ⟨sc, hsc⟩ : ∃ sc : Shared, ({ sb with heap := pushCells (sb.heap.push { cls := .type "dict", data := .dict #[] }) scope.names } : Shared) = sc := ⟨_, rfl⟩
  have tc : tn 0 sc.heap := Tw.keep _ _ _ t0 fun b _ o e => by rw [← hsc]; exact pushCells_keeps _ _ _ _ (Heap.get?_push_of_some _ e)
  rw [hsc] at Ic ⊢
  rw [hHb] at w0
  have ok : ∀ {σ' : L2.St} {H' : Hp} {s' : Shared}, Inv (X.blk sb Hb scope ce fp) [] σ' H' s' → (∀ b ∈ fp, H' b = none) → ∀ b ∈ fp, FpOk (X.blk sb Hb scope ce fp) [] H' b := fun {σ' H' s'} J' hn b hb =>
    ⟨hn b hb, (J'.ok.exf b hb).1, J'.ok.exfs b hb, .inl hb, fun x c e => (J'.ok.exf b hb).2 x c e, fun z hz => absurd (show z ∈ ([] : List (Addr × Obj)) ++ [] from hz) (by simp)⟩
  let Rn : Nat → Shared → Prop := fun n s' => ∃ i H', Inv (X.blk sb Hb scope ce fp) [] (wipe σ (own.map (·.2))) H' s' ∧ tn i s'.heap ∧ (∀ b ∈ fp, H' b = none) ∧ Wk i n H'
  have lp : codeAny (model X.prog X.w) X.A (.compLoop (.SetComp elt [⟨tg, iter, ifs, 0⟩] scope pos) 0 (.ref it) (.ref p) ce) (compPost (model X.prog X.w) X.A X.xe none (EP X pins σ Q) (.ref p) sb.heap.objs.size) sc := by
    refine PpSet.compLoopS_any Rn ?_ m0 ⟨0, Hb, Ic, tc, fn0, w0⟩
    rintro n sd ⟨i, Hd, Id, td, nd', wd⟩
    rcases turn i n Hd wd with ⟨stop, fin⟩ | ⟨go, N, hN, step⟩
    · refine thnF (Tw.done (X.blk sb Hb scope ce fp) rfl rfl rfl cm i [] sd _ Hd (fun _ _ => False) Id (ok Id nd') td stop) fun r se ⟨hr, Ie⟩ => ?_
      subst hr
      have If : Inv X pins σ Hd se := Ib.call' (ch := fp) Ie.os Ie.base Ie.hok Ie.bare fun b hb => ⟨(fb b hb).1.2.2.2.1, (fb b hb).1.2.1, (fb b hb).1.2.2.2.2.1, (fb b hb).1.2.2.2.2.2⟩
      have nC : Hd sb.heap.objs.size = none := by have z : Hd ce.locals = none := Ie.free; rw [lc] at z; exact z
      obtain ⟨mm, hm, _⟩ := Ie.loc
      have hm : se.heap.Ns ce.locals mm := hm
      rw [lc] at hm
      obtain ⟨f0, f1, f2, f3, f4, f5⟩ := Ib.fpOk (Nat.le_refl _) nC
      exact ⟨mm, hm, fun h'' sb' => ⟨.ref p, Hd, If.turned (t' := se.toks) (fun b o hb e => (sb'.2 b hb).trans e) f0 f1 f3 f4 f5, rfl, fin⟩⟩
    · refine thnF (Tw.item (X.blk sb Hb scope ce fp) rfl rfl rfl cm i [] sd _ Hd (fun _ _ => False) Id (ok Id nd') td go) fun r se ⟨u, hr, he⟩ => ?_
      subst hr
      refine thnF he fun _ sf ⟨x, Hf, If, rf, yf, tf, nf⟩ => ?_
      have Ig := If.pinned (ok If nf) (Tw.obj _ _ tf)
      refine thnF (pg.run _ sf _ Hf x u _ Ig rf (step x Hf yf)) fun _ sg ⟨σg, Hg, Jg, wg, qg⟩ => ?_
      refine thnF (pt.run _ sg σg Hg _ Jg qg) fun b sh ⟨Hh, Jh, qh⟩ => ?_
      have back : ∀ {s' : Shared} {H' : Hp}, Inv (X.blk sb Hb scope ce fp) ([] ++ pinsAt fp sf.heap) σg H' s' → N H' → ∃ m, m < n ∧ Rn m s' := fun {s' H'} J' nx => by
        obtain ⟨m', hm, w'⟩ := hN H' nx
        have pin : ∀ b ∈ fp, ∀ o, sf.heap.get? b = some o → s'.heap.get? b = some o ∧ H' b = none := fun b hb o e => ⟨(J'.pin (b, o) (List.mem_append_right _ (List.mem_append_right _ (mem_pinsAt hb e)))).1, (J'.pin (b, o) (List.mem_append_right _ (List.mem_append_right _ (mem_pinsAt hb e)))).2.1⟩
        have ln : (wipe σ (own.map (·.2))).length = σg.length := by rw [← wg, wipe_length]
        refine ⟨m', hm, i + 1, H', (J'.unpinned (pins := [])).weak ln (fun j v e => ?_), Tw.keep _ _ _ tf fun b hb o e => (pin b hb o e).1, fun b hb => ?_, w'⟩
        · rw [← wg] at e
          exact (wipe_some e).1
        · obtain ⟨o, e, _⟩ := Tw.obj _ _ tf b hb
          exact (pin b hb o e).2
      cases b with
      | false =>
        simp only [Bool.false_eq_true, if_false] at qh ⊢
        exact back Jh qh
      | true =>
        simp only [if_true] at qh ⊢
        refine thnF (pe.run _ sh σg Hh _ Jh qh) fun v si ⟨yv, Hi, Ji, ri, k, l, ey, hl, hz, nx⟩ => ?_
        subst ey
        obtain ⟨u', rfl⟩ := (show ∃ t, v = Value.str k t from ri)
        exact addT_ok (X := X.blk sb Hb scope ce fp) Ji hl hz fun sj Jj => back Jj nx
  exact PpSet.codeAny_compStart_set lp (Tw.self X.A 0 _ _ _ tc lp)
/-- sorted(the set) -/
def rSortedT (P : Program) (w : World) : List V → Hp → VK → Prop := fun vs H Q => ∃ (a : Addr) (l : List Str), vs = [.ref a] ∧ H a = some (SetTO P w a l) ∧ l.length < scanBound ∧ ∀ p, H p = none → Q (.ref p) (upd H p (.lst ((srtS l).map V.str)))
theorem cr_sortedT (cm : X.calm = true) : CallR X (.builtin "sorted") (rSortedT X.prog X.w) := by
  intro pins s σ H vs us Q I r h
  obtain ⟨a, l, rfl, ha, hb, q⟩ := h
  rw [Vals.ref1 r]
  refine (setTO_get I ha).sorted (I.ok.hd cm) hb fun s' p out c ss k g o hp hg hi hs hm => ?_
  have hn : H p = none := I.hok.fresh hp
  have e : s' = { s with heap := s'.heap, gens := s'.gens, drawn := s'.drawn, toks := s'.toks } := by
    cases s'
    cases s
    cases o
    rfl
  have es : ss = srtS l := srtS_of hs hm
  have hl : ((srtS l).map V.str).length ≤ sizeLine := by rw [List.length_map, ← es, hs.length_eq]; exact fits_of_scanBound hb
  rw [e]
  refine ⟨.ref p, _, I.call (ch := []) (Un.laid k hp hn) (I.hok.laid k hp (o := .lst ((srtS l).map V.str)) ⟨hl, out.toList, c, ?_, hg⟩) (by rw [g]; exact I.bare) (fun _ z => nomatch z), rfl, q p hn⟩
  rw [← es]
  exact vals_of_strs hi
end
end DL
end
set_option Elab.async false
set_option linter.all false
set_option maxRecDepth 100000
set_option maxHeartbeats 2000000
/-! # sorted({.. for ..}) -/
noncomputable section
namespace DL
open PySem L2 PySem.Froz
open PyProof.Rows hiding St
section
variable {X : Cx} {C : Ct} {c0 : Cf} {W : WX} {tg : Expr}
/-- an object in the making, at p, behind b -/
structure Mko (C : Ct) (b c : Cf) (p : Addr) (o : HO) : Prop where
  ext : Ext b c
  wf : WF C c
  fresh : b.H p = none
  g : c.G p = none
  r : p ∉ c.ρ
  at' : c.H p = some o
theorem Mko.start {b : Cf} {p : Addr} {o : HO} (w : WF C b) (hp : b.H p = none) : Mko C b ⟨upd b.H p o, b.G, b.ρ, b.s⟩ p o := by
  obtain ⟨w2, e2⟩ := lay_new (o := o) w hp
  exact ⟨e2, w2, hp, w.gfree hp, w.rfree hp, upd_same⟩
theorem Mko.step {b c c' : Cf} {p : Addr} {o : HO} (h : Mko C b c p o) (e : Ext c c') (w : WF C c') : Mko C b c' p o := by
  refine ⟨h.ext.trans e, w, h.fresh, e.fr p h.g (by rw [h.at']; simp), fun hm => ?_, e.kp p _ h.at' h.r⟩
  obtain ⟨m, em, fm⟩ := e.pr
  rw [em] at hm
  rcases List.mem_append.mp hm with hm | hm
  · exact h.r hm
  · have := fm p hm
    rw [h.at'] at this
    cases this
theorem Mko.write {b c : Cf} {p : Addr} {o : HO} (o' : HO) (h : Mko C b c p o) : Mko C b ⟨upd c.H p o', c.G, c.ρ, c.s⟩ p o' := by
  have w := h.wf
  have nb : ∀ {x u}, b.H x = some u → x ≠ p := fun e z => by subst z; rw [h.fresh] at e; cases e
  have ng : ∀ {x u}, c.G x = some u → x ≠ p := fun e z => by subst z; rw [h.g] at e; cases e
  have at1 : ∀ {x}, x ≠ p → upd c.H p o' x = c.H x := fun ne => upd_ne ne
  refine ⟨⟨h.ext.g, h.ext.fr, fun x u e nx => (at1 (nb e)).trans (h.ext.kp x u e nx), fun x dd => ?_, h.ext.pr, fun x z u e => (at1 (nb e)).trans (h.ext.lk x z u e)⟩, ⟨fun x u e => (at1 (ng e)).trans (w.ext x u e), w.len, w.nd, fun x hx => ?_, fun m u e => ?_⟩, h.fresh, h.g, h.r, upd_same⟩
  · have ne : x ≠ p := fun z => by subst z; exact dd h.fresh
    show upd c.H p o' x ≠ none
    rw [at1 ne]
    exact h.ext.dom x dd
  · have ne : x ≠ p := fun z => by subst z; exact h.r hx
    show upd c.H p o' x ≠ none
    rw [at1 ne]
    exact w.dom x hx
  · obtain ⟨x, hx, r1, r2, r3, r4⟩ := w.cel m u e
    have ne : x ≠ p := fun z => by subst z; exact h.r (List.mem_of_getElem? r1)
    exact ⟨x, hx, r1, r2, (at1 ne).trans r3, r4⟩
/-- the texts of a set comprehension -/
def tsM (g : GM) (t : LE → M Bool) (e : LE → M D) (env : LE) : List D → List Str → M (List Str)
  | [], acc => pure acc
  | d :: ds, acc => match g d env with
    | none => mStuck
    | some env1 => t env1 >>= fun b => if b = true then e env1 >>= fun y => strM y >>= fun k => guardM (decide (acc.length < 4000)) >>= fun _ => tsM g t e env ds (addS acc k) else tsM g t e env ds acc
def nSortSc (mi : LE → M (List D)) (g : GM) (t : LE → M Bool) (e : LE → M D) (own : List Nat) : LE → M O := fun env => mi env >>= fun ds => noX (tsM g t e (wipeE env own) ds []) >>= fun l => guardM (decide (l.length < 4000)) >>= fun _ => pure (.lst ((srtS l).map .str))
theorem sim_sct {P : Program} {w : World} {wi : TI} {g : TG} {tt : TT} {te : TE} {mi : LE → M (List D)} {mg : GM} {is own : List Nat} {mt : LE → M Bool} {me : LE → M D} (si : SimI C W wi mi) (sg : SimG C g mg is) (st : SimT C WN tt mt) (se : SimE C WN te me) (sub : ∀ i ∈ is, i ∈ own) :
    SimN C W (tCB (rSortedT P w) (tCons (tSct P w wi g tt te own) tNil)) (nSortSc mi mg mt me own) := by
  intro env σ c Q hR hF
  refine si env σ c _ hR (Fn.bind0 hF fun ds c1 e1 w1 hF1 J wk p hp => ?_)
  have R1 := (hR.ext e1 w1).wipe own
  let Kf : List Str → Cf → Prop := fun r c' => Mko C c1 c' p (SetTO P w p r) → r.length < 4000 ∧ ∀ q, c'.H q = none → Q (.ref q) (upd c'.H q (.lst ((srtS r).map V.str)))
  have hF2 : Fn C c1 (tsM mg mt me (wipeE env own) ds [] c1.s) Kf (fun _ _ _ => False) := by
    refine Fn.noX (Fn.mono e1 hF1) fun r c' e' w' hF3 mk => ?_
    obtain ⟨hz, hF4⟩ := Fn.guardB hF3
    refine ⟨of_decide_eq_true hz, fun q nq => ?_⟩
    obtain ⟨w2, e2⟩ := lay_new (o := .lst ((srtS r).map V.str)) w' nq
    have hk := hF4 ⟨upd c'.H q (.lst ((srtS r).map V.str)), c'.G, c'.ρ, c'.s⟩ rfl (e'.trans e2) w2
    exact hk q (.of ((e1.trans e').trans (Ext.refl c')) w' nq ⟨_, rfl, denStrs _⟩)
  let Inv : Nat → Nat → Hp → Prop := fun i m H => ∃ c2 acc, c2.H = H ∧ Mko C c1 c2 p (SetTO P w p acc) ∧ m = ds.length - i ∧ i ≤ ds.length ∧ Fn C c1 (tsM mg mt me (wipeE env own) (ds.drop i) acc c2.s) Kf (fun _ _ _ => False)
  refine ⟨Inv, ⟨ds.length, _, [], rfl, .start w1 hp, rfl, Nat.zero_le _, hF2⟩, ?_⟩
  rintro i m H2 ⟨c2, acc, rfl, mk2, rfl, hi, hFi⟩
  obtain ⟨k1, k2⟩ := wk c2 mk2.ext.g mk2.ext.pre mk2.wf mk2.ext.lk i
  cases e : ds[i]? with
  | none =>
    rw [List.drop_eq_nil_of_le (List.getElem?_eq_none_iff.mp e)] at hFi
    obtain ⟨hz, hk⟩ := hFi c2 rfl mk2.ext mk2.wf mk2
    refine .inl ⟨k2 e, p, acc, rfl, mk2.at', by show acc.length < 4096; omega, hk⟩
  | some d =>
    obtain ⟨hlt, hd⟩ := List.getElem?_eq_some_iff.mp e
    have ed : ds.drop i = d :: ds.drop (i + 1) := by rw [List.drop_eq_getElem_cons hlt, hd]
    rw [ed] at hFi
    obtain ⟨go, yld⟩ := k1 d e
    refine .inr ⟨go, fun H' => Inv (i + 1) (ds.length - (i + 1)) H', fun H' z => ⟨_, by omega, z⟩, fun x H3 y => ?_⟩
    obtain ⟨c3, rfl, es3, x3, w3, dn3⟩ := yld x H3 y
    have mk3 := mk2.step x3 w3
    have R3 := R1.ext (mk2.ext.trans x3) w3
    unfold tsM at hFi
    cases eg : mg d (wipeE env own) with
    | none => rw [eg] at hFi; exact False.elim hFi
    | some env3 =>
      rw [eg] at hFi
      refine sg _ _ c3 d x env3 _ R3 dn3 eg fun σ3 R4 S4 => ⟨?_, ?_⟩
      · have hw : L2.wipe (L2.wipe σ own) own = L2.wipe σ own := wipe_same (L2.wipe_length σ own) fun j hj => wipe_get own hj
        rw [← hw]
        exact wipe_same (S4.len) fun j hj => S4.st j fun z => hj (sub j z)
      · have b3 : Ext c1 c3 := mk2.ext.trans x3
        have hFt0 : Fn C c1 ((mt env3 >>= fun b => if b = true then me env3 >>= fun y => strM y >>= fun k => guardM (decide (acc.length < 4000)) >>= fun _ => tsM mg mt me (wipeE env own) (ds.drop (i + 1)) (addS acc k) else tsM mg mt me (wipeE env own) (ds.drop (i + 1)) acc) c3.s) Kf (fun _ _ _ => False) := by
          rw [es3]
          exact hFi
        refine st env3 σ3 c3 _ R4 (Fn.bindB b3 hFt0 fun b c4 x4 w4 hF4 => ?_)
        have mk4 := mk3.step x4 w4
        cases b with
        | false => exact iteF ⟨c4, acc, rfl, mk4, rfl, hlt, hF4⟩
        | true =>
          refine iteT ?_
          have hF4' : Fn C c1 ((me env3 >>= fun y => strM y >>= fun k => guardM (decide (acc.length < 4000)) >>= fun _ => tsM mg mt me (wipeE env own) (ds.drop (i + 1)) (addS acc k)) c4.s) Kf (fun _ _ _ => False) := hF4
          refine se env3 σ3 c4 _ (R4.ext x4 w4) (Fn.bindB (b3.trans x4) hF4' fun y c5 x5 w5 hF5 v dv => ?_)
          have mk5 := mk4.step x5 w5
          cases y <;> first | exact False.elim hF5 | skip
          rename_i k
          obtain ⟨hz, h6⟩ := Fn.guardB (hF5 : Fn C c1 ((guardM (decide (acc.length < 4000)) >>= fun _ => tsM mg mt me (wipeE env own) (ds.drop (i + 1)) (addS acc k)) c5.s) Kf (fun _ _ _ => False))
          have hz' : acc.length < 4000 := of_decide_eq_true hz
          exact ⟨k, acc, dv, mk5.at', by show acc.length + 1 < 4096; omega, ⟨_, _, rfl, mk5.write _, rfl, hlt, h6⟩⟩
/-- sorted({elt for tg in iter if ..}) -/
theorem sn_sortSc {elt iter : Expr} {ifs : List Expr} {scope : Scope} (own : List (Str × Nat)) (ow : List Nat) {np pos cpos : Pos} {mi : LE → M (List D)} {mg : GM} {is : List Nat} {mt : LE → M Bool} {me : LE → M D} (ho : own.map (·.2) = ow) (hm : X.mg "sorted" = none) (hi : SI X C W tg iter mi) (hN : X.N.Nodup) (ok : blkC X.N X.env.scope scope own = true)
    (hg : ∀ (s : Shared) (H : Hp) (c : Addr) (cl : List (Str × Addr)) (fp : List Addr), SG (X.blk s H scope (compEnvC scope cl c X.env) fp) C tg mg is)
    (ht : ∀ (s : Shared) (H : Hp) (c : Addr) (cl : List (Str × Addr)) (fp : List Addr), STs (X.blk s H scope (compEnvC scope cl c X.env) fp) C WN ifs mt)
    (he : ∀ (s : Shared) (H : Hp) (c : Addr) (cl : List (Str × Addr)) (fp : List Addr), SE (X.blk s H scope (compEnvC scope cl c X.env) fp) C WN elt me)
    (sub : (is.all fun i => decide (i ∈ own.map (·.2))) = true := by rfl) (hc : X.calm = true := by rfl) (hgl : Gl X "sorted" := by rfl) (hs : ∀ x, foldedSetIterable iter X.env x = pure x := by intro _; rfl)
    (hst : starEach [.SetComp elt [⟨tg, iter, ifs, 0⟩] scope pos] X.env = [(false, eval (.SetComp elt [⟨tg, iter, ifs, 0⟩] scope pos) X.env)] := by rfl) :
    SN X C W (.Call (.Name "sorted" np) [.SetComp elt [⟨tg, iter, ifs, 0⟩] scope pos] [] cpos) (nSortSc mi mg mt me ow) := by
  subst ho
  obtain ⟨wi, pi, si⟩ := hi.out
  have pe := pe_sct (pos := pos) hc hN pi (blkOk_by ok) (fun s H c cl fp => (hg s H c cl fp).canon) (fun s H c cl fp => (ht s H c cl fp).canon) (fun s H c cl fp => (he s H c cl fp).canon) hs
  exact ⟨_, pe_callB (cr_sortedT hc) hgl hm bb_sorted (pa_cons pe pa_nil hst) (by decide) (by decide) hst rfl, sim_sct si sim_tG sim_tT sim_tE fun i hi => of_decide_eq_true (List.all_eq_true.mp sub i hi)⟩
end
end DL
end
set_option Elab.async false
set_option linter.all false
set_option maxRecDepth 100000
set_option maxHeartbeats 4000000
/-! # set(texts) -/
noncomputable section
namespace DL
open PySem L2 PySem.Froz
open PyProof.Rows hiding St
def allS (l : List Str) : List Str → List Str
  | [] => l
  | k :: r => allS (addS l k) r
theorem allS_len : ∀ (r l : List Str), (allS l r).length ≤ l.length + r.length
  | [], l => Nat.le_refl _
  | k :: r, l => by
    have h1 := allS_len r (addS l k)
    have h2 := addS_len l k
    show (allS (addS l k) r).length ≤ _
    rw [List.length_cons]
    omega
theorem allS_snoc : ∀ (r l : List Str) (k : Str), allS l (r ++ [k]) = addS (allS l r) k
  | [], _, _ => rfl
  | x :: r, l, k => allS_snoc r (addS l x) k
section
variable {P : Program} {w : World} {A : Around} {E : Value → Shared → Prop} {s : Shared} {a : Addr} {l : List Str}
theorem STx.addH {k : Str} {u : Tok} {Q : Bool → Shared → Prop} (R : STx P w s.heap a l) (room : l.length + 1 < scanBound)
    (q : ∀ b h', Heap.SameBut a s.heap h' → STx P w h' a (addS l k) → Q b { s with heap := h' }) : wpAny (model P w) A (setAddHashed a (.str k u) (hashStr w k)) Q E s := by
  obtain ⟨D, ho, F, nd, r, ld⟩ := R
  by_cases hk : k ∈ l
  · exact add_there ho F hk (by omega) (q false s.heap (Heap.SameBut.refl a s.heap) ⟨D, ho, by unfold addS; rw [if_pos hk]; exact ⟨F, nd, r, ld⟩⟩)
  · refine add_x ho F hk room (q true _ (Heap.SameBut.update s.heap a _) ⟨addTx (hashStr w k) (.str k u) D, get_upd _ ho rfl, ?_⟩)
    unfold addS
    rw [if_neg hk]
    exact ⟨add_ok u F, List.nodup_cons.mpr ⟨hk, nd⟩, addTx_ris r, ld.imp id fun z => addTx_led.trans z⟩
end
section
variable {P : Program} {w : World} {A : Around} {R : Result → Shared → Prop} {I : Addr} {fp wr : List Addr} {G : Array GenState → Array GenState → Prop} {n : Nat} {Pv : Nat → Value → Prop} {Sv : Nat → Shared → Prop}
/-- the loop that puts all of an iterator's texts into a set -/
theorem put_all (W : WalksS P w A.in1 I fp wr G n Pv Sv) (a : Addr) (af : a ∉ fp) (xs : List Str) (hx : xs.length = n) (hb : n < 4000) (hv : ∀ i v, Pv i v → ∃ t, v = .str (xs.getD i Str.empty) t) :
    ∀ (k i : Nat) (s : Shared), n - i = k → i ≤ n → Sv i s → STx P w s.heap a (allS [] (xs.take i)) → (∀ s', Moved (a :: wr) G s s' → STx P w s'.heap a (allS [] xs) → R (.ok (.ret .none)) s') →
      codeAny (model P w) A (.builtin "set.update.loop" ⟨[.ref a, .ref I], []⟩) R s := by
  have aw : a ∉ wr := fun h => af (W.sub _ h)
  have up : ∀ b ∈ wr, b ∈ a :: wr := fun b hb => List.mem_cons_of_mem _ hb
  intro k
  induction k with
  | zero =>
    intro i s hk hi st hS hR
    have e : i = n := by omega
    subst e
    (refine codeAny_builtin PyProof.Rows.F.entry_set_update_loop ?_; rw [Around.under_plainId PyProof.Rows.F.plain_set_update_loop _])
    show wpAny _ A.in1 (pyNext (.ref I) >>= _) _ _ s
    refine wpAny_bind (W.done s _ _ st fun s' hm => wpAny_pure (hR s' (hm.mono up) ?_))
    rw [List.take_of_length_le (Nat.le_of_eq hx)] at hS
    exact hS.mv fun o e => hm.heap a _ aw e
  | succ k ih =>
    intro i s hk hi st hS hR
    have lt : i < n := by omega
    (refine codeAny_builtin PyProof.Rows.F.entry_set_update_loop ?_; rw [Around.under_plainId PyProof.Rows.F.plain_set_update_loop _])
    show wpAny _ A.in1 (pyNext (.ref I) >>= _) _ _ s
    refine wpAny_bind (W.item i s _ _ lt st fun v s' pv st' hm => ?_)
    obtain ⟨t, rfl⟩ := hv i v pv
    obtain ⟨x, hxi⟩ : ∃ x, xs.getD i Str.empty = x := ⟨_, rfl⟩
    have hget : xs[i]? = some x := by rw [← hxi, List.getD_eq_getElem?_getD, List.getElem?_eq_getElem (by omega)]; rfl
    rw [hxi]
    show wpAny _ A.in1 (holding [Value.str x t] (setAdd a (.str x t)) >>= _) _ _ s'
    unfold setAdd
    have hS' : STx P w s'.heap a (allS [] (xs.take i)) := hS.mv fun o e => hm.heap a _ aw e
    have room : (allS [] (xs.take i)).length + 1 < scanBound := by
      have h1 := allS_len (xs.take i) []
      rw [List.length_take, List.length_nil] at h1
      show _ < 4096
      omega
    refine wpAny_bind (wpAny_holding (wpAny_holding (wpAny_bind ((PySem.strKind P w).pyHash (k := x) (is_str x t) (STx.addH (s := { s' with toks := s'.toks + 1 }) hS' room fun b h' sb z => ?_)))))
    have e2 : addS (allS [] (xs.take i)) x = allS [] (xs.take (i + 1)) := by rw [← allS_snoc, List.take_succ, hget] <;> rfl
    rw [e2] at z
    have off : ∀ b o, b ∉ a :: wr → s'.heap.get? b = some o → h'.get? b = some o := fun b o hb e => (sb.2 b fun q => hb (by rw [q]; exact List.mem_cons_self)).trans e
    refine wpAny_pure ⟨plainId_quiet PyProof.Rows.F.plain_set_update_loop _, ih (i + 1) _ (by omega) lt (W.frame _ s' _ _ st' (Nat.le_succ _) fun b hb o e => (sb.2 b fun q => af (by rw [← q]; exact hb)).trans e) z fun s'' hm'' z'' => ?_⟩
    exact hR s'' (Moved.trans W.gtrans ((hm.mono up).then_heap (Nat.le_succ _) fun b o hb e => off b o hb e) hm'') z''
end
section
variable {P : Program} {w : World} {A : Around} {E : Value → Shared → Prop} {s : Shared}
/-- set.__new__: an empty one -/
theorem new1 (v : Value) {Q : Value → Shared → Prop} (h : Q (.ref s.heap.objs.size) { s with heap := s.heap.push { cls := .type "set", dict := none, data := .set #[] 0 (.fresh 0 0 (!w.params.followText "set-order")) } }) :
    codeAny (model P w) A (.call (.builtin "set.__new__") ⟨[.type "set", v], []⟩) (wants Q E) s := by
  refine codeAny_of_tree (show wpAny _ A.in1 (do checkBuiltinCall "set.__new__" ⟨[.type "set", v], []⟩; again (.builtin "set.__new__" ⟨[.type "set", v], []⟩)) _ _ s from ?_)
  refine wpAny_bind (wpAny_of_eq (F.newCall_set_1 v) (wpAny_pure ⟨plainId_quiet F.plain_set_new _, codeAny_builtin F.entry_set_new ?_⟩))
  (rw [Around.under_plainId F.plain_set_new _]; skip)
  unfold Builtin.«set.__new__» Builtin.Frozenset.newClass
  have sf := sub_set_self
  obtain ⟨hp, g, d, tk, os⟩ := s
  dsimp only
  wp_walk
  refine wpAny_askSetting (wpAny_pure ?_)
  dsimp only
  simp only [newObj]
  exact wpAny_bind (wpAny_alloc (wpAny_pure (wpAny_pure h)))

/-- set(a list of texts) -/
theorem set_of_list {l : Addr} {its : Array Value} {xs : List Str} {Q : Value → Shared → Prop} (hd : A.handled = none) (hl : s.heap.IsList l its) (hi : PyProof.Rows.StrsAre its.toList xs) (hb : xs.length < 4000)
    (q : ∀ (h' : Heap) (tk : Nat), STx P w h' s.heap.objs.size (allS [] xs) → (∀ b o, b < s.heap.objs.size → s.heap.get? b = some o → h'.get? b = some o) → Q (.ref s.heap.objs.size) { s with heap := h', toks := tk }) :
    wpAny (model P w) A (call (.type "set") [.ref l]) Q E s := by
  obtain ⟨obj0, ho0⟩ : ∃ ob : Obj, ({ cls := .type "set", dict := none, data := .set #[] 0 (.fresh 0 0 (!w.params.followText "set-order")) } : Obj) = ob := ⟨_, rfl⟩
  obtain ⟨mc, mt, hmro⟩ := PySem.F.called_set.mro
  have made0 := PySem.F.called_set.made
  have subm := PySem.F.called_set.sub
  refine wpAny_call (codeAny_of_tree (show wpAny _ _ (callAny (.type "set") _) _ _ _ from ?_))
  refine wpAny_pure ⟨Code.quiet_builtin _ (by decide +kernel), codeAny_builtin PySem.F.entry_type_call ?_⟩
  (rw [Around.under_plain (weight_type_call_type "set" [.ref l] []) rfl]; skip)
  have notT := PySem.F.called_set.notType
  have canC := PySem.F.called_set.canCreate
  have tcl := PySem.F.typeCall_set_1 (.ref l)
  (repeat (any_goals (first | assumption | wp_step)))
  refine codeAny_mono (new1 (.ref l) (E := E) (Q := fun v t => v = .ref s.heap.objs.size ∧ t = { s with heap := s.heap.push { cls := .type "set", dict := none, data := .set #[] 0 (.fresh 0 0 (!w.params.followText "set-order")) } }) ⟨rfl, rfl⟩) fun r t hr => ?_
  cases r with
  | error e => exact hr
  | ok fl =>
    cases fl with
    | ret obj =>
      obtain ⟨rfl, rfl⟩ := hr
      have hnew : STx P w (s.heap.push { cls := .type "set", dict := none, data := .set #[] 0 (.fresh 0 0 (!w.params.followText "set-order")) }) s.heap.objs.size [] := STx.new P w
      rw [ho0] at hnew ⊢
      have hat : (s.heap.push obj0).get? s.heap.objs.size = some obj0 := Heap.get?_push_size _ (by rw [← ho0]; rfl)
      have hty : Shared.TypeIs { s with heap := s.heap.push obj0 } (.ref s.heap.objs.size) "set" := ⟨_, hat, by rw [← ho0]⟩
      have ili := PySem.F.called_set.init.lookup
      have ibi := PySem.F.called_set.init.bind (.ref s.heap.objs.size)
      (repeat (any_goals (first | assumption | wp_step)))
      refine codeAny_mono (codeAny_call_builtin (R := wants (fun r t => r = .none ∧ ∃ h' tk, t = { s with heap := h', toks := tk } ∧ STx P w h' s.heap.objs.size (allS [] xs) ∧ ∀ b o, b < s.heap.objs.size → s.heap.get? b = some o → h'.get? b = some o) E) PySem.F.called_set.init.plain PySem.F.entry_set_init (check_set_init_1 hty ?_)) fun r₂ t₂ hr₂ => ?_
      · obtain ⟨⟨oc, od, odt, osl⟩, gol, hcl, nl, hdl⟩ := hl
        simp only at hcl hdl
        subst hcl; subst hdl
        have gol' : (s.heap.push obj0).get? l = some { cls := .type "list", dict := od, data := .seq its nl, slots := osl } := Heap.get?_push_of_some _ gol
        have n1 := PySem.F.sub_list_set
        have n2 := PySem.F.sub_list_frozenset
        have n3 : (Value.type "list" == Value.type "dict") = false := by decide
        have lis : (s.heap.push obj0).IsList l its := ⟨_, gol', rfl, nl, rfl⟩
        subst ho0
        unfold Builtin.«set.__init__» noKeywords Builtin.Frozenset.updateFrom
        generalize hPI : pyIter = PI
        wp_walk
        subst hPI
        refine wpAny_pyIter_list lis ?_
        (refine wpAny_bind (wpAny_runValue ?_); skip)
        have ltS : l < s.heap.objs.size := Heap.lt_size gol
        have h3 : A.in1.in1.in1.handled = none := by simp [hd]
        have neI : l ≠ (s.heap.push { cls := .type "set", dict := none, data := .set #[] 0 (.fresh 0 0 (!w.params.followText "set-order")) }).objs.size := by rw [Heap.size_push]; exact Nat.ne_of_lt (Nat.lt_succ_of_lt ltS)
        have off : s.heap.objs.size ∉ [(s.heap.push { cls := .type "set", dict := none, data := .set #[] 0 (.fresh 0 0 (!w.params.followText "set-order")) }).objs.size, l] := by
          rw [Heap.size_push]
          simp only [List.mem_cons, List.not_mem_nil, or_false, not_or]
          exact ⟨Nat.ne_of_lt (Nat.lt_succ_self _), Nat.ne_of_gt ltS⟩
        have hx : xs.length = its.size := by rw [← StrsAre.len_eq hi, Array.length_toList]
        refine put_all ((Walks.list h3 _ l neI its).toS) s.heap.objs.size off xs hx (by rw [← hx]; exact hb) (fun i v hv => SS.strs_at hi i v (by rw [Array.getElem?_toList]; exact hv)) (its.size - 0) 0 _ (by omega) (Nat.zero_le _) ⟨⟨_, Heap.get?_push_size _ rfl, rfl, rfl⟩, lis.push _⟩ (hnew.mv fun o e => Heap.get?_push_of_some _ e) ?_
        rintro ⟨h', g', d', tk', os'⟩ hm hS'
        have eg : g' = s.gens := hm.gens
        have ed : d' = s.drawn := hm.drawn
        have eo : os' = s.os := hm.os
        subst eg; subst ed; subst eo
        refine wpAny_pure (show wpAny _ _ (ret Value.none) _ _ _ from wpAny_pure ⟨rfl, h', tk', rfl, hS', fun b o hb e => ?_⟩)
        have b1 : b ≠ s.heap.objs.size := Nat.ne_of_lt hb
        have b2 : b ≠ (s.heap.push { cls := .type "set", dict := none, data := .set #[] 0 (.fresh 0 0 (!w.params.followText "set-order")) }).objs.size := by rw [Heap.size_push]; exact Nat.ne_of_lt (Nat.lt_succ_of_lt hb)
        exact hm.heap b o (by simp only [List.mem_cons, List.not_mem_nil, or_false, not_or]; exact ⟨b1, b2⟩) (Heap.get?_push_of_some _ (Heap.get?_push_of_some _ e))
      · cases r₂ with
        | error e => exact hr₂
        | ok fl₂ =>
          cases fl₂ with
          | ret r =>
            obtain ⟨rfl, h', tk, rfl, hS', hk'⟩ := hr₂
            (repeat (any_goals (first | assumption | wp_step)))
            exact q _ _ hS' hk'
          | _ => exact hr₂.elim
    | _ => exact hr.elim

/-- set(a tuple of texts) -/
theorem set_of_tuple {l : Addr} {its : Array Value} {xs : List Str} {Q : Value → Shared → Prop} (hd : A.handled = none) (hl : s.heap.IsTuple l its) (hi : PyProof.Rows.StrsAre its.toList xs) (hb : xs.length < 4000)
    (q : ∀ (h' : Heap) (tk : Nat), STx P w h' s.heap.objs.size (allS [] xs) → (∀ b o, b < s.heap.objs.size → s.heap.get? b = some o → h'.get? b = some o) → Q (.ref s.heap.objs.size) { s with heap := h', toks := tk }) :
    wpAny (model P w) A (call (.type "set") [.ref l]) Q E s := by
  obtain ⟨obj0, ho0⟩ : ∃ ob : Obj, ({ cls := .type "set", dict := none, data := .set #[] 0 (.fresh 0 0 (!w.params.followText "set-order")) } : Obj) = ob := ⟨_, rfl⟩
  obtain ⟨mc, mt, hmro⟩ := PySem.F.called_set.mro
  have made0 := PySem.F.called_set.made
  have subm := PySem.F.called_set.sub
  refine wpAny_call (codeAny_of_tree (show wpAny _ _ (callAny (.type "set") _) _ _ _ from ?_))
  refine wpAny_pure ⟨Code.quiet_builtin _ (by decide +kernel), codeAny_builtin PySem.F.entry_type_call ?_⟩
  (rw [Around.under_plain (weight_type_call_type "set" [.ref l] []) rfl]; skip)
  have notT := PySem.F.called_set.notType
  have canC := PySem.F.called_set.canCreate
  have tcl := PySem.F.typeCall_set_1 (.ref l)
  (repeat (any_goals (first | assumption | wp_step)))
  refine codeAny_mono (new1 (.ref l) (E := E) (Q := fun v t => v = .ref s.heap.objs.size ∧ t = { s with heap := s.heap.push { cls := .type "set", dict := none, data := .set #[] 0 (.fresh 0 0 (!w.params.followText "set-order")) } }) ⟨rfl, rfl⟩) fun r t hr => ?_
  cases r with
  | error e => exact hr
  | ok fl =>
    cases fl with
    | ret obj =>
      obtain ⟨rfl, rfl⟩ := hr
      have hnew : STx P w (s.heap.push { cls := .type "set", dict := none, data := .set #[] 0 (.fresh 0 0 (!w.params.followText "set-order")) }) s.heap.objs.size [] := STx.new P w
      rw [ho0] at hnew ⊢
      have hat : (s.heap.push obj0).get? s.heap.objs.size = some obj0 := Heap.get?_push_size _ (by rw [← ho0]; rfl)
      have hty : Shared.TypeIs { s with heap := s.heap.push obj0 } (.ref s.heap.objs.size) "set" := ⟨_, hat, by rw [← ho0]⟩
      have ili := PySem.F.called_set.init.lookup
      have ibi := PySem.F.called_set.init.bind (.ref s.heap.objs.size)
      (repeat (any_goals (first | assumption | wp_step)))
      refine codeAny_mono (codeAny_call_builtin (R := wants (fun r t => r = .none ∧ ∃ h' tk, t = { s with heap := h', toks := tk } ∧ STx P w h' s.heap.objs.size (allS [] xs) ∧ ∀ b o, b < s.heap.objs.size → s.heap.get? b = some o → h'.get? b = some o) E) PySem.F.called_set.init.plain PySem.F.entry_set_init (check_set_init_1 hty ?_)) fun r₂ t₂ hr₂ => ?_
      · obtain ⟨⟨oc, od, odt, osl⟩, gol, hcl, nl, hdl⟩ := hl
        simp only at hcl hdl
        subst hcl; subst hdl
        have gol' : (s.heap.push obj0).get? l = some { cls := .type "tuple", dict := od, data := .seq its nl, slots := osl } := Heap.get?_push_of_some _ gol
        have n1 := PySem.F.sub_tuple_set
        have n2 := PySem.F.sub_tuple_frozenset
        have n3 : (Value.type "tuple" == Value.type "dict") = false := by decide
        have lis : (s.heap.push obj0).IsTuple l its := ⟨_, gol', rfl, nl, rfl⟩
        subst ho0
        unfold Builtin.«set.__init__» noKeywords Builtin.Frozenset.updateFrom
        generalize hPI : pyIter = PI
        wp_walk
        subst hPI
        refine wpAny_pyIter_tuple lis ?_
        (refine wpAny_bind (wpAny_runValue ?_); skip)
        have ltS : l < s.heap.objs.size := Heap.lt_size gol
        have h3 : A.in1.in1.in1.handled = none := by simp [hd]
        have neI : l ≠ (s.heap.push { cls := .type "set", dict := none, data := .set #[] 0 (.fresh 0 0 (!w.params.followText "set-order")) }).objs.size := by rw [Heap.size_push]; exact Nat.ne_of_lt (Nat.lt_succ_of_lt ltS)
        have off : s.heap.objs.size ∉ [(s.heap.push { cls := .type "set", dict := none, data := .set #[] 0 (.fresh 0 0 (!w.params.followText "set-order")) }).objs.size, l] := by
          rw [Heap.size_push]
          simp only [List.mem_cons, List.not_mem_nil, or_false, not_or]
          exact ⟨Nat.ne_of_lt (Nat.lt_succ_self _), Nat.ne_of_gt ltS⟩
        have hx : xs.length = its.size := by rw [← StrsAre.len_eq hi, Array.length_toList]
        refine put_all ((Walks.tuple h3 _ l neI its).toS) s.heap.objs.size off xs hx (by rw [← hx]; exact hb) (fun i v hv => SS.strs_at hi i v (by rw [Array.getElem?_toList]; exact hv)) (its.size - 0) 0 _ (by omega) (Nat.zero_le _) ⟨⟨_, Heap.get?_push_size _ rfl, rfl, rfl⟩, lis.push _⟩ (hnew.mv fun o e => Heap.get?_push_of_some _ e) ?_
        rintro ⟨h', g', d', tk', os'⟩ hm hS'
        have eg : g' = s.gens := hm.gens
        have ed : d' = s.drawn := hm.drawn
        have eo : os' = s.os := hm.os
        subst eg; subst ed; subst eo
        refine wpAny_pure (show wpAny _ _ (ret Value.none) _ _ _ from wpAny_pure ⟨rfl, h', tk', rfl, hS', fun b o hb e => ?_⟩)
        have b1 : b ≠ s.heap.objs.size := Nat.ne_of_lt hb
        have b2 : b ≠ (s.heap.push { cls := .type "set", dict := none, data := .set #[] 0 (.fresh 0 0 (!w.params.followText "set-order")) }).objs.size := by rw [Heap.size_push]; exact Nat.ne_of_lt (Nat.lt_succ_of_lt hb)
        exact hm.heap b o (by simp only [List.mem_cons, List.not_mem_nil, or_false, not_or]; exact ⟨b1, b2⟩) (Heap.get?_push_of_some _ (Heap.get?_push_of_some _ e))
      · cases r₂ with
        | error e => exact hr₂
        | ok fl₂ =>
          cases fl₂ with
          | ret r =>
            obtain ⟨rfl, h', tk, rfl, hS', hk'⟩ := hr₂
            (repeat (any_goals (first | assumption | wp_step)))
            exact q _ _ hS' hk'
          | _ => exact hr₂.elim
    | _ => exact hr.elim

end
end DL
end
set_option Elab.async false
set_option linter.all false
set_option maxRecDepth 100000
set_option maxHeartbeats 2000000
/-! # sorted(set(texts)) -/
noncomputable section
namespace DL
open PySem L2 PySem.Froz
open PyProof.Rows hiding St
section
variable {X : Cx} {C : Ct} {c0 : Cf} {W : WX} {tg : Expr}
/-- set(texts) -/
def rSetT (K : PySem.W.Frag) (P : Program) (w : World) : List V → Hp → VK → Prop := fun vs H Q => ∃ (p : Addr) (xs : List Str), vs = [.ref p] ∧ (SqL K H p (xs.map V.str) ∨ SqT K H p (xs.map V.str)) ∧ xs.length < 4000 ∧ ∀ q, H q = none → Q (.ref q) (upd H q (SetTO P w q (allS [] xs)))
theorem cr_setT (cm : X.calm = true) : CallR X (.type "set") (rSetT X.K X.prog X.w) := by
  intro pins s σ H vs us Q I r h
  obtain ⟨p, xs, rfl, hq, hb, q⟩ := h
  rw [Vals.ref1 r]
  have fin : ∀ (h' : Heap) (tk : Nat), STx X.prog X.w h' s.heap.objs.size (allS [] xs) → (∀ b o, b < s.heap.objs.size → s.heap.get? b = some o → h'.get? b = some o) → EP X pins σ Q (.ref s.heap.objs.size) { s with heap := h', toks := tk } := fun h' tk z k =>
    ⟨.ref s.heap.objs.size, _, I.laid (t' := tk) (fun b o e => k b o (Heap.lt_size e) e) (Nat.le_refl _) (setTO_new z), rfl, q _ (I.hok.fresh (Nat.le_refl _))⟩
  rcases hq with hq | hq
  · obtain ⟨its, rv, pl, _⟩ := I.list hq
    exact set_of_list (I.ok.hd cm) pl.isList (by rw [List.toList_toArray]; exact rv.strs) hb fin
  · obtain ⟨its, rv, pl, _⟩ := I.tuple hq
    exact set_of_tuple (I.ok.hd cm) pl (by rw [List.toList_toArray]; exact rv.strs) hb fin
def nSortSet (m : LE → M D) : LE → M O := fun env => m env >>= fun d => rdS d >>= fun ds => optM (strsOf ds) >>= fun xs => guardM (decide (xs.length < 4000)) >>= fun _ => pure (.lst ((srtS (allS [] xs)).map .str))
theorem sim_sortSet {K : PySem.W.Frag} {P : Program} {w : World} {te : TE} {m : LE → M D} (hK : K = C.K) (se : SimE C W te m) : SimN C W (tCB (rSortedT P w) (tCons (tCB (rSetT K P w) (tCons te tNil)) tNil)) (nSortSet m) := by
  subst hK
  intro env σ c Q hR hF
  refine se env σ c _ hR (Fn.bind hF fun d c1 e1 w1 hF1 v dn => ?_)
  obtain ⟨p, vs, ds, rfl, hq, l, hF2⟩ := rdS_sim w1 dn hF1
  obtain ⟨xs, e, hF3⟩ := Fn.optM hF2
  obtain ⟨hz, hF4⟩ := Fn.guard hF3
  cases strsOf_den e l
  have hz' : xs.length < 4000 := of_decide_eq_true hz
  have hl := allS_len xs []
  rw [List.length_nil] at hl
  refine ⟨p, xs, rfl, hq, hz', fun q nq => ⟨q, allS [] xs, rfl, upd_same, by show _ < 4096; omega, fun r nr => ?_⟩⟩
  obtain ⟨w2, e2⟩ := lay_new (o := SetTO P w q (allS [] xs)) w1 nq
  obtain ⟨w3, e3⟩ := lay_new (c := ⟨upd c1.H q (SetTO P w q (allS [] xs)), c1.G, c1.ρ, c1.s⟩) (o := .lst ((srtS (allS [] xs)).map V.str)) w2 nr
  have hk := hF4 ⟨upd (upd c1.H q (SetTO P w q (allS [] xs))) r (.lst ((srtS (allS [] xs)).map V.str)), c1.G, c1.ρ, c1.s⟩ rfl (e2.trans e3) w3
  exact hk r (New.of (c := ⟨upd c1.H q (SetTO P w q (allS [] xs)), c1.G, c1.ρ, c1.s⟩) (o := .lst ((srtS (allS [] xs)).map .str)) (e1.trans e2) w2 nr ⟨_, rfl, denStrs _⟩)
theorem sn_sortSet {e : Expr} {m : LE → M D} {np sp ipos pos : Pos} (h : SE X C W e m) (hs : X.mg "sorted" = none) (ht : X.mg "set" = none) (hK : X.K = C.K := by rfl) (hc : X.calm = true := by rfl) (g1 : Gl X "sorted" := by rfl) (g2 : Gl X "set" := by rfl)
    (st1 : starEach [.Call (.Name "set" sp) [e] [] ipos] X.env = [(false, eval (.Call (.Name "set" sp) [e] [] ipos) X.env)] := by rfl) (st2 : starEach [e] X.env = [(false, eval e X.env)] := by rfl) :
    SN X C W (.Call (.Name "sorted" np) [.Call (.Name "set" sp) [e] [] ipos] [] pos) (nSortSet m) := by
  obtain ⟨t, pe, se⟩ := h.out
  have ps := pe_callTy (pos := ipos) (p := sp) (cr_setT hc) g2 ht bb_set (pa_cons pe pa_nil st2) (by decide) (by decide) st2 rfl
  exact ⟨_, pe_callB (cr_sortedT hc) g1 hs bb_sorted (pa_cons ps pa_nil st1) (by decide) (by decide) st1 rfl, sim_sortSet hK se⟩
end
end DL
end
set_option Elab.async false
set_option linter.all false
set_option maxRecDepth 100000
set_option maxHeartbeats 2000000
/-! # d.get(k, z) -/
noncomputable section
namespace DL
open PySem L2
open PyProof.Rows hiding St
section
variable {X : Cx} {C : Ct} {c0 : Cf} {W : WX} {tg : Expr}
def oDGet2 (x i z : D) : M D := dctR x >>= fun kvs => optM (keyD i) >>= fun k => pure ((valD kvs k).getD z)
def eDGet2 (mo mk mz : LE → M D) : LE → M D := fun env => mo env >>= fun x => dctR x >>= fun _ => mk env >>= fun i => mz env >>= fun z => oDGet2 x i z
theorem se_dget2 {o e f : Expr} {mo mk mz : LE → M D} {apos cpos : Pos} (hu : X.A.units + 64 < cLine) (ho : SE X C W o mo) (he : SE X C W e mk) (hf : SE X C W f mz)
    (b1 : attributeBase o "get" X.env (eval o X.env) = eval o X.env := by rfl)
    (b2 : ((backTo cpos (starEach [e, f] X.env)).all (fun x => !x.1) && (backToKw cpos (keywordEach [] X.env)).all (fun x => x.1.isSome) && decide (([e, f] : List Expr).length + ([] : List Keyword).length + (if ([] : List Keyword).isEmpty then 0 else 1) < 30)) = true := by rfl)
    (b3 : (apos.endLine == cpos.line) = true := by rfl) (b4 : backTo cpos (starEach [e, f] X.env) = [(false, eval e X.env), (false, eval f X.env)] := by rfl) :
    SE X C W (.Call (.Attribute o "get" apos) [e, f] [] cpos) (eDGet2 mo mk mz) := by
  obtain ⟨to, po, so⟩ := ho.out
  obtain ⟨te, pe, se⟩ := he.out
  obtain ⟨tf, pf, sf⟩ := hf.out
  refine ⟨_, pe_dget2 (by omega) po pe pf ⟨b1, b2, b3, b4⟩, fun env σ c Q hR hF => ?_⟩
  refine so env σ c _ hR (Fn.bind hF fun x c1 e1 w1 hF1 v d1 => ?_)
  obtain ⟨p, ws, kvs, rfl, hp, l, _, hF2⟩ := dctR_sim w1 d1 hF1
  refine ⟨p, rfl, .inl ⟨ws, hp⟩, ?_⟩
  refine se env σ c1 _ (hR.ext e1 w1) (Fn.bind hF2 fun i c2 e2 w2 hF3 u d2 => ?_)
  refine sf env σ c2 _ ((hR.ext e1 w1).ext e2 w2) (Fn.bind hF3 fun z c3 e3 w3 hF4 t d3 => ?_)
  obtain ⟨p', ws', kvs', ep, hp', l', _, h5⟩ := dctR_sim w3 (d1.mono (e2.trans e3).g (e2.trans e3).pre) hF4
  cases ep
  obtain ⟨k, ek, h6⟩ := Fn.optM h5
  cases keyD_den ek (d2.mono e3.g e3.pre)
  refine ⟨_, DGet.rd hp', Fn.ok w3 h6 _ ?_⟩
  have q := l'.val k
  cases e : valD kvs' k with
  | none =>
    rw [q.2 e]
    exact d3
  | some d =>
    obtain ⟨y, hy, dy⟩ := q.1 d e
    rw [hy]
    exact dy
end
end DL
end
set_option Elab.async false
set_option linter.all false
set_option maxRecDepth 100000
set_option maxHeartbeats 2000000
/-! # x == (), repr of tuples with dicts in them -/
noncomputable section
namespace DL
open PySem L2
open PyProof.Rows hiding St
section
variable {X : Cx} {C : Ct}
/-- a tuple beside the empty one -/
def rEqE (K : PySem.W.Frag) : R2 := fun x y H Q => ∃ a b xs, x = .ref a ∧ y = .ref b ∧ SqT K H a xs ∧ SqT K H b [] ∧ Q (.bl xs.isEmpty) H
theorem op_eqE (hu : X.A.units + 64 < cLine) : OpR X (compareOp .Eq) (rEqE X.K) := by
  intro pins s σ H x y v u Q I rx ry h
  obtain ⟨a, b, xs, rfl, rfl, h1, h2, q⟩ := h
  obtain ⟨its, r1, p1, _⟩ := I.tuple h1
  obtain ⟨its2, r2, p2, _⟩ := I.tuple h2
  cases rx
  cases ry
  cases r2
  refine SeqAt.eq_tupleAt (e := fun _ => true) p1 p2 (by omega) (fun j k1 k2 => absurd k2 (by simp)) ?_
  have e : ((List.range (min its.toArray.size (([] : List Value).toArray).size)).all (fun _ => true) && its.toArray.size == (([] : List Value).toArray).size) = xs.isEmpty := by
    have := r1.length
    cases xs with
    | nil => cases r1; rfl
    | cons z zs =>
      cases r1
      simp
  rw [e]
  exact ⟨.bl xs.isEmpty, H, I, rfl, q⟩
def oEqE (x y : D) : M D := match x, y with
  | .tup ds, .tup [] => pure (.bl ds.isEmpty)
  | _, _ => mStuck
theorem s_eqE : SimO C (rEqE C.K) oEqE := by
  intro c x y v w Q E wf dx dy hF
  cases x <;> first | exact False.elim hF | skip
  cases y <;> first | exact False.elim hF | skip
  rename_i ds es
  cases es with
  | cons z zs => exact False.elim hF
  | nil =>
    obtain ⟨a, xs, rfl, h1, l1⟩ := dx
    obtain ⟨b, ys, rfl, h2, l2⟩ := dy
    have e2 : ys = [] := by cases ys with
      | nil => rfl
      | cons _ _ => simp only [DenL] at l2; cases l2
    subst e2
    have e1 : xs.isEmpty = ds.isEmpty := by
      cases ds with
      | nil => cases xs with
        | nil => rfl
        | cons _ _ => simp only [DenL] at l1; cases l1
      | cons d ds' =>
        simp only [DenL] at l1
        obtain ⟨_, _, rfl, _⟩ := l1
        rfl
    exact ⟨a, b, xs, rfl, rfl, wf.ext.sqt h1, wf.ext.sqt h2, by rw [e1]; exact Fn.ok wf hF _ rfl⟩
/-! ## repr -/
mutual
inductive Dq (K : PySem.W.Frag) (H : Hp) : V → PyData → Prop
  | leaf {v : V} {p : PyData} : LeafP v p → Dq K H v p
  | tup {a : Addr} {xs : List V} {ds : List PyData} : SqT K H a xs → DqAll K H xs ds → Dq K H (.ref a) (.tuple ds)
  | dct {a : Addr} {ws : List (Key × V)} {kvs : List (PyData × PyData)} : H a = some (.dK ws) → LeafKP ws kvs → Dq K H (.ref a) (.dict kvs)
inductive DqAll (K : PySem.W.Frag) (H : Hp) : List V → List PyData → Prop
  | nil : DqAll K H [] []
  | cons {v : V} {vs : List V} {d : PyData} {ds : List PyData} : Dq K H v d → DqAll K H vs ds → DqAll K H (v :: vs) (d :: ds)
end
mutual
theorem Dq.reads {pins : List (Addr × Obj)} {σ : L2.St} {H : Hp} {s : Shared} (I : Inv X pins σ H s) : ∀ (d : PyData) (v : V) (u : Value), Dq X.K H v d → RelV v u → ∃ as, Reads s.heap u d as ∧ sysModules ∉ as
  | d, v, u, .leaf l, r => ⟨[], leafP_reads l r, by simp⟩
  | .tuple ds, .ref a, u, .tup h l, r => by
    cases r
    obtain ⟨its, rv, ⟨o, ho, hc, n, hd⟩, _⟩ := I.tuple h
    obtain ⟨as, ra, na⟩ := DqAll.reads I ds _ its l rv
    exact ⟨as, .tuple ho hc hd (by rw [List.toList_toArray]; exact ra), na⟩
  | .dict kvs, .ref a, u, .dct ha lk, r => by
    cases r
    obtain ⟨_, hsys, vs, kv, o, es, ep, ho, hx, hdt, hk, hp, _⟩ := (show ObjOk X.prog X.w H s.heap a (.dK _) from I.hok a _ ha)
    obtain ⟨r1, r2⟩ := leafKP_reads (h := s.heap) lk kv hp
    refine ⟨_, .dict ho hx.1 hdt r1 r2, ?_⟩
    simp only [List.append_nil, List.mem_cons, List.not_mem_nil, or_false]
    exact fun z => by rw [← z] at hsys; simp at hsys
theorem DqAll.reads {pins : List (Addr × Obj)} {σ : L2.St} {H : Hp} {s : Shared} (I : Inv X pins σ H s) : ∀ (ds : List PyData) (vs : List V) (us : List Value), DqAll X.K H vs ds → Vals vs us → ∃ as, ReadsAll s.heap us ds as ∧ sysModules ∉ as
  | [], _, _, .nil, .nil => ⟨[], .nil, by simp⟩
  | d :: ds, _, _, .cons h l, .cons r rs => by
    obtain ⟨as, ra, na⟩ := Dq.reads I d _ _ h r
    obtain ⟨bs, rb, nb⟩ := DqAll.reads I ds _ _ l rs
    exact ⟨as ++ bs, .cons ra rb, fun z => (List.mem_append.mp z).elim na nb⟩
end
end
end DL
end
set_option Elab.async false
set_option linter.all false
set_option maxRecDepth 100000
set_option maxHeartbeats 2000000
/-! # repr of tuples with dicts in them -/
noncomputable section
namespace DL
open PySem L2
open PyProof.Rows hiding St
mutual
def D.pyq : D → Option PyData
  | .tup ds => (pyqL ds).map .tuple
  | .dct kvs => (leafK kvs).map .dict
  | .non => some .none
  | .bl b => some (.bool b)
  | .int i => some (.int i)
  | .str s => some (.str s)
  | _ => none
def pyqL : List D → Option (List PyData)
  | [] => some []
  | d :: ds => d.pyq.bind fun p => (pyqL ds).map (p :: ·)
end
section
variable {C : Ct} {G H : Hp} {ρ : List Addr}
mutual
theorem den_q (hG : Gr G H) : ∀ (d : D) (v : V) (p : PyData), Den C G ρ d v → d.pyq = some p → Dq C.K H v p
  | .non, v, p, h, e => by simp only [D.pyq, Option.some.injEq] at e; subst e; simp only [Den] at h; subst h; exact .leaf .non
  | .bl b, v, p, h, e => by simp only [D.pyq, Option.some.injEq] at e; subst e; simp only [Den] at h; subst h; exact .leaf (.bl b)
  | .int b, v, p, h, e => by simp only [D.pyq, Option.some.injEq] at e; subst e; simp only [Den] at h; subst h; exact .leaf (.int b)
  | .str b, v, p, h, e => by simp only [D.pyq, Option.some.injEq] at e; subst e; simp only [Den] at h; subst h; exact .leaf (.str b)
  | .tup ds, v, p, h, e => by
    simp only [D.pyq] at e
    obtain ⟨ps, e1, rfl⟩ := Option.map_eq_some_iff.mp e
    obtain ⟨a, xs, rfl, h1, l⟩ := h
    exact .tup (hG.sqt h1) (den_qL hG ds xs ps l e1)
  | .dct kvs, v, p, h, e => by
    simp only [D.pyq] at e
    obtain ⟨ps, e1, rfl⟩ := Option.map_eq_some_iff.mp e
    obtain ⟨a, ws, rfl, ha, l⟩ := h
    exact .dct (hG _ _ ha) (leafK_p e1 l)
  | .lst _, v, p, h, e => by simp only [D.pyq] at e; cases e
  | .scr _, v, p, h, e => by simp only [D.pyq] at e; cases e
  | .loc _, v, p, h, e => by simp only [D.pyq] at e; cases e
  | .ob .., v, p, h, e => by simp only [D.pyq] at e; cases e
  | .cls .., v, p, h, e => by simp only [D.pyq] at e; cases e
  | .exn .., v, p, h, e => by simp only [D.pyq] at e; cases e
theorem den_qL (hG : Gr G H) : ∀ (ds : List D) (vs : List V) (ps : List PyData), DenL C G ρ ds vs → pyqL ds = some ps → DqAll C.K H vs ps
  | [], vs, ps, h, e => by
    simp only [pyqL, Option.some.injEq] at e
    subst e
    simp only [DenL] at h
    subst h
    exact .nil
  | d :: ds, vs, ps, h, e => by
    simp only [pyqL] at e
    obtain ⟨p, e1, e2⟩ := Option.bind_eq_some_iff.mp e
    obtain ⟨qs, e3, rfl⟩ := Option.map_eq_some_iff.mp e2
    simp only [DenL] at h
    obtain ⟨v, r', rfl, h1, h2⟩ := h
    exact .cons (den_q hG d v p h1 e1) (den_qL hG ds r' qs h2 e3)
end
end
def showQ (p : PyData) : Bool := p.showable && (decide (p.depth ≤ 40) && szOk p.shown.length)
def rReprQ (K : PySem.W.Frag) : List V → Hp → VK → Prop := fun xs H Q => ∃ a ps, xs = [.ref a] ∧ Dq K H (.ref a) (.tuple ps) ∧ showQ (.tuple ps) = true ∧ Q (.str (PyData.shown (.tuple ps))) H
section
variable {X : Cx}
theorem call_reprQ (hg : X.A.guards = some []) (hu : X.A.units + 64 < cLine) : CallR X (.builtin "repr") (rReprQ X.K) := by
  intro pins s σ H xs us Q I r h
  obtain ⟨a, ps, rfl, dq, ok, q⟩ := h
  rw [Vals.ref1 r]
  unfold showQ at ok
  simp only [Bool.and_eq_true, decide_eq_true_eq] at ok
  obtain ⟨hs, hd, hz⟩ := ok
  obtain ⟨as, rr, na⟩ := Dq.reads I _ _ (.ref a) dq rfl
  exact repr_of_reads' rr hs (fun _ => na) hg (by omega) (fun _ _ z => z) (fun h' u tk k => ⟨.str _, H, I.kept (t' := tk) k, ⟨_, rfl⟩, q⟩) (szOk_line hz)
theorem call_reprW (hg : X.A.guards = some []) (hu : X.A.units + 64 < cLine) : CallR X (.builtin "repr") (fun xs H Q => rRepr X.K xs H Q ∨ rReprQ X.K xs H Q) := (call_reprU hg hu).or (call_reprQ hg hu)
end
def oReprQ (d : D) : M D := match d with
  | .tup ds => (match D.py (.tup ds) with
    | some _ => oRepr (.tup ds)
    | none => optM (pyqL ds) >>= fun ps => guardM (showQ (.tuple ps)) >>= fun _ => pure (.str (PyData.shown (.tuple ps))))
  | d => oRepr d
theorem s_reprQ {C : Ct} {K : PySem.W.Frag} (hK : K = C.K) : SimC C (fun xs H Q => rRepr K xs H Q ∨ rReprQ K xs H Q) (on1 oReprQ) := simC1 fun c d v Q E w dn hF => by
  have old : ∀ d, Den C c.G c.ρ d v → Fn C c (oRepr d c.s) (KD C Q) E → rRepr K [v] c.H Q ∨ rReprQ K [v] c.H Q := fun d dn hF => .inl (by
    subst hK
    obtain ⟨p, rd, hF2⟩ := pyM_sim w dn hF
    obtain ⟨ok, hF3⟩ := Fn.guard hF2
    exact ⟨v, p, rfl, rd, ok, Fn.ok w hF3 _ rfl⟩)
  by_cases q : ∃ ds, d = .tup ds
  · obtain ⟨ds, rfl⟩ := q
    have hF' : Fn C c ((match D.py (.tup ds) with
      | some _ => oRepr (.tup ds)
      | none => optM (pyqL ds) >>= fun ps => guardM (showQ (.tuple ps)) >>= fun _ => pure (.str (PyData.shown (.tuple ps)))) c.s) (KD C Q) E := hF
    cases e : D.py (.tup ds) with
    | some p => rw [e] at hF'; exact old _ dn hF'
    | none =>
      rw [e] at hF'
      subst hK
      obtain ⟨ps, e1, h2⟩ := Fn.optM hF'
      obtain ⟨ok, h3⟩ := Fn.guard h2
      obtain ⟨a, xs, rfl, h1, l⟩ := dn
      exact .inr ⟨a, ps, rfl, .tup (w.ext.sqt h1) (den_qL w.ext ds xs ps l e1), ok, Fn.ok w h3 _ rfl⟩
  · refine old d dn ?_
    cases d <;> first | exact hF | exact absurd ⟨_, rfl⟩ q
end DL
end
set_option Elab.async false
set_option linter.all false
set_option maxRecDepth 100000
set_option maxHeartbeats 2000000
/-! # k in d; xs.extend(ys) -/
noncomputable section
namespace DL
open PySem L2
open PyProof.Rows hiding St
section
variable {X : Cx} {C : Ct} {c0 : Cf} {W : WX} {tg : Expr}
def rDIn (neg : Bool) : R2 := fun x y H Q => ∃ a o, y = .ref a ∧ DGet H a x o ∧ Q (.bl (if neg = true then !o.isSome else o.isSome)) H
theorem op_din (hu : X.A.units + 64 < cLine) : OpR X (compareOp .In) (rDIn false) := by
  intro pins s σ H x y v u Q I rx ry h
  obtain ⟨a, o, rfl, g, q⟩ := h
  obtain rfl : u = Value.ref a := ry
  exact d_in (by omega) I g rx fun s3 I3 => ⟨.bl o.isSome, H, I3, rfl, q⟩
theorem op_dnotin (hu : X.A.units + 64 < cLine) : OpR X (compareOp .NotIn) (rDIn true) := by
  intro pins s σ H x y v u Q I rx ry h
  obtain ⟨a, o, rfl, g, q⟩ := h
  obtain rfl : u = Value.ref a := ry
  exact d_notIn (by omega) I g rx fun s3 I3 => ⟨.bl (!o.isSome), H, I3, rfl, q⟩
def oDInG (neg : Bool) (x y : D) : M D := dctR y >>= fun kvs => optM (keyD x) >>= fun k => pure (.bl (if neg = true then !(valD kvs k).isSome else (valD kvs k).isSome))
def oDIn : D → D → M D := oDInG false
def oDNotIn : D → D → M D := oDInG true
theorem s_dinG (neg : Bool) : SimO C (rDIn neg) (oDInG neg) := by
  intro c x y v w Q E wf dx dy hF
  obtain ⟨a, ws, kvs, rfl, ha, l, _, h1⟩ := dctR_sim wf dy hF
  obtain ⟨k, ek, h2⟩ := Fn.optM h1
  cases keyD_den ek dx
  refine ⟨a, _, rfl, DGet.rd ha, ?_⟩
  have e : (valV ws k).isSome = (valD kvs k).isSome := by
    have q := l.val k
    cases e : valD kvs k with
    | none => rw [q.2 e]; rfl
    | some d =>
      obtain ⟨z, hz, _⟩ := q.1 d e
      rw [hz]
      rfl
  rw [e]
  exact Fn.ok wf h2 _ rfl
theorem s_din : SimO C (rDIn false) oDIn := s_dinG false
theorem s_dnotin : SimO C (rDIn true) oDNotIn := s_dinG true
/-- xs.extend(ys): xs an own list -/
def sExt (i : Nat) (m : LE → M D) : SM := fun env s => match env[i]? with
  | some (some (.own (.lst ds))) => sE m (fun d env s => match d with
    | .lst es => if (szOk ds.length && szOk es.length) = true then some (.nx (env.set i (some (.own (.lst (ds ++ es))))), s) else none
    | _ => none) env s
  | _ => none
theorem s1_ext (i : Nat) {x : Str} {e : Expr} {m : LE → M D} {p1 p2 p3 p4 : Pos} (h : SE X C W e m) (hN : X.N[i]? = some x := by rfl) (hv : Vis X.env.scope x := by first | exact Or.inl rfl | exact Or.inr (Or.inl rfl) | exact Or.inr (Or.inr rfl))
    (hb : ∀ {tv : TE} {ta : TA}, PE X (.Name x p1) tv → PA X [e] ta → PE X (.Call (.Attribute (.Name x p1) "extend" p2) [e] [] p3) (tBM X.K "list" rExtend tv ta))
    (hst : starEach [e] X.env = (false, eval e X.env) :: starEach [] X.env := by rfl)
    (hs : swapsWith (.Call (.Attribute (.Name x p1) "extend" p2) [e] [] p3) none p4.line X.env = pure false := by rfl)
    (hd : (x == ("__debug__" : Str)) = false := by decide) (hcd : (x == ("__classdict__" : Str)) = false := by decide) :
    SS1 X C c0 W (.Expr (.Call (.Attribute (.Name x p1) "extend" p2) [e] [] p3) p4) (sExt i m) := by
  obtain ⟨te, pe, se⟩ := h.out
  refine ⟨_, ps_expr (hb (pe_var hN hv hd hcd) (pa_cons pe pa_nil hst)) hs, fun env σ c E hR hF => ?_⟩
  obtain ⟨ds, he, hF⟩ : ∃ ds, env[i]? = some (some (.own (.lst ds))) ∧ FS C c0 c W E (sE m (fun d env s => match d with
    | .lst es => if (szOk ds.length && szOk es.length) = true then some (.nx (env.set i (some (.own (.lst (ds ++ es))))), s) else none
    | _ => none) env c.s) := by
    unfold sExt at hF
    cases q : env[i]? with
    | none => rw [q] at hF; exact False.elim hF
    | some o =>
      cases o with
      | none => rw [q] at hF; exact False.elim hF
      | some sd =>
        cases sd with
        | val d => rw [q] at hF; exact False.elim hF
        | own u =>
          cases u with
          | lst ds => rw [q] at hF; exact ⟨ds, rfl, hF⟩
          | dct ds => rw [q] at hF; exact False.elim hF
          | ins a b => rw [q] at hF; exact False.elim hF
          | lk a => rw [q] at hF; exact False.elim hF
  obtain ⟨a, ho, b1, b2, b3, b4, vs, rfl, l⟩ := hR.rl.own i _ he
  refine ⟨_, b1, .inl ⟨rfl, _, SqL.of b4⟩, se env σ c _ hR.rl (hF.fn hR fun d c' x w hR' hF' v dn => ?_)⟩
  obtain ⟨a', ho', b1', b2', b3', b4', vs', rfl, l'⟩ := hR'.rl.own i _ he
  rw [b1] at b1'
  cases b1'
  cases d <;> first | exact False.elim hF' | skip
  rename_i es
  obtain ⟨b, zs, rfl, hb', lz⟩ := dn
  cases hz : (szOk ds.length && szOk es.length) with
  | false => simp only [hz] at hF'; exact False.elim hF'
  | true =>
    simp only [hz] at hF'
    rw [Bool.and_eq_true] at hz
    have z1 : ds.length ≤ 1000000 := of_decide_eq_true hz.1
    have z2 : es.length ≤ 1000000 := of_decide_eq_true hz.2
    exact ⟨a, b, vs', zs, rfl, rfl, b4', w.ext _ _ hb', by rw [l'.length, lz.length, sizeLine_eq]; omega, hF' σ ⟨_, _, _, _⟩ rfl (hR'.write he b1 ⟨_, rfl, l'.append lz⟩) ⟨Gr.refl _, Pre.refl _, fun x z u e => by have ne : x ≠ a := (fun y => by subst y; rw [b4'] at e; cases e); show upd _ a _ x = _; rw [upd_ne ne]; exact e⟩⟩
end
end DL
end
set_option Elab.async false
set_option linter.all false
set_option maxRecDepth 100000
set_option maxHeartbeats 2000000
/-! # sorted of ints or texts -/
noncomputable section
namespace DL
open PySem L2
open PyProof.Rows hiding St
def numsD : List D → Option (List Int)
  | [] => some []
  | .int i :: ds => (numsD ds).map (i :: ·)
  | _ => none
theorem numsD_den {C : Ct} {G : Hp} {ρ : List Addr} : ∀ {ds : List D} {ns : List Int} {vs : List V}, numsD ds = some ns → DenL C G ρ ds vs → vs = ns.map V.int
  | [], ns, vs, h, l => by
    cases h
    simp only [DenL] at l
    exact l
  | d :: ds, ns, vs, h, l => by
    simp only [DenL] at l
    obtain ⟨v, r, rfl, d1, d2⟩ := l
    cases d <;> first | (cases h; done) | skip
    obtain ⟨ms, e3, rfl⟩ := Option.map_eq_some_iff.mp h
    cases (show v = _ from d1)
    rw [numsD_den e3 d2]
    rfl
def leI (a b : Int) : Bool := decide (a ≤ b)
def srtI (ns : List Int) : List Int := ns.mergeSort leI
theorem srtI_of {ys xs : List Int} (p : ys.Perm xs) (h : ys.Pairwise (· ≤ ·)) : ys = srtI xs :=
  PySem.W.Srt.the_of_perm leI (fun a b c h k => decide_eq_true (Int.le_trans (of_decide_eq_true h) (of_decide_eq_true k))) (fun a b => by
    unfold leI
    rcases Int.le_total a b with h | h
    · rw [decide_eq_true h]; rfl
    · rw [decide_eq_true h, Bool.or_true]) (fun a b h k => Int.le_antisymm (of_decide_eq_true h) (of_decide_eq_true k)) p (h.imp fun q => decide_eq_true q)
theorem denNums {C : Ct} {G : Hp} {ρ : List Addr} : ∀ ns : List Int, DenL C G ρ (ns.map .int) (ns.map V.int)
  | [] => .nil
  | n :: ns => .cons rfl (denNums ns)
def nSortU (d : D) : M O := rdL d >>= fun ds => match numsD ds with
  | some ns => guardM (decide (ns.length < 64)) >>= fun _ => pure (.lst ((srtI ns).map .int))
  | none => optM (strsOf ds) >>= fun xs => guardM (decide (xs.length < 64)) >>= fun _ => pure (.lst ((srtS xs).map .str))
theorem cr_sortedU {X : Cx} : CallR X (.builtin "sorted") (fun vs H Q => rSorted X.K vs H Q ∨ rSortedS X.K vs H Q) := cr_sorted.or cr_sortedS
theorem sn_sortU {C : Ct} {K : PySem.W.Frag} (hK : K = C.K) : SimCN C (fun vs H Q => rSorted K vs H Q ∨ rSortedS K vs H Q) (on1 nSortU) := simCN1 fun c d v Q E w dn hF => by
  subst hK
  obtain ⟨p, vs, ds, rfl, hq, l, hF2⟩ := rdL_sim w dn hF
  cases e : numsD ds with
  | some ns =>
    simp only [e] at hF2
    obtain ⟨hz, hF4⟩ := Fn.guard hF2
    cases numsD_den e l
    refine .inl ⟨p, ns, rfl, hq, of_decide_eq_true hz, fun ys a hp hs ha => ?_⟩
    cases srtI_of hp hs
    obtain ⟨w2, e2⟩ := lay_new (o := .lst ((srtI ns).map V.int)) w ha
    exact Fn.ok w2 (Fn.mono e2 hF4) a (.of (Ext.refl c) w ha ⟨_, rfl, denNums _⟩)
  | none =>
    simp only [e] at hF2
    obtain ⟨xs, e3, hF3⟩ := Fn.optM hF2
    obtain ⟨hz, hF4⟩ := Fn.guard hF3
    cases strsOf_den e3 l
    refine .inr ⟨p, xs, rfl, hq, of_decide_eq_true hz, fun ys a hp hs ha => ?_⟩
    cases srtS_of hp hs
    obtain ⟨w2, e2⟩ := lay_new (o := .lst ((srtS xs).map V.str)) w ha
    exact Fn.ok w2 (Fn.mono e2 hF4) a (.of (Ext.refl c) w ha ⟨_, rfl, denStrs _⟩)
end DL
end
set_option Elab.async false
set_option linter.all false
set_option maxRecDepth 100000
set_option maxHeartbeats 2000000
/-! # A dict that is never written again may be held frozen (for dict walks; not used yet) -/
noncomputable section
namespace DL
open PySem L2
open PyProof.Rows hiding St
section
variable {X : Cx}
/-- the value told may be a dict: then it is frozen from here on -/
def tHold (t : TE) : TE := fun σ H Q => t σ H fun v H' => (∃ d ws, v = .ref d ∧ H' d = some (.dK ws) ∧ ∀ od, Q v (upd H' d (.frz od (.dK ws)))) ∨ Q v H'
theorem pe_hold {e : Expr} {t : TE} (h : PE X e t) : PE X e (tHold t) := by
  refine ⟨fun pins s σ H Q I hw => ?_⟩
  refine thn (h.run pins s σ H _ I hw) fun v s1 ⟨x, H1, I1, r, q⟩ => ?_
  rcases q with ⟨d, ws, rfl, hd, q⟩ | q
  · obtain ⟨od, I2⟩ := I1.lock hd trivial
    exact ⟨_, _, I2, r, q od⟩
  · exact ⟨x, H1, I1, r, q⟩
end
end DL
end
set_option Elab.async false
set_option linter.all false
set_option maxRecDepth 100000
set_option maxHeartbeats 2000000
/-! # a, b = x, [..]: the second one an own object -/
noncomputable section
namespace DL
open PySem L2
open PyProof.Rows hiding St
section
variable {X : Cx} {C : Ct} {c0 : Cf} {W : WX} {tg : Expr}
def sParO (i j : Nat) (m : LE → M D) (n : LE → M O) : SM := sE m fun d => sE n fun o env s => some (.nx ((env.set i (some (.val d))).set j (some (.own o))), s)
theorem s1_parO (i j : Nat) {x y : Str} {a b : Expr} {m : LE → M D} {n : LE → M O} {px py pt pos : Pos} {kt k2 pt2} (h : SE X C W a m) (k : SN X C W b n) (hN : X.N.Nodup) (hw : swappedStores [.Tuple [.Name x px, .Name y py] kt pt] (.Tuple [a, b] k2 pt2) X.env = pure (some [x, y])) (hc : X.calm = true := by rfl) (hi : X.N[i]? = some x := by rfl) (hj : X.N[j]? = some y := by rfl) (hij : i ≠ j := by decide)
    (hx : X.env.scope.names.lookup x = some .local := by rfl) (hy : X.env.scope.names.lookup y = some .local := by rfl) (hs : swapsWithSole [.Tuple [.Name x px, .Name y py] kt pt] (.Tuple [a, b] k2 pt2) pos.line X.env = pure false := by rfl)
    (s1 : starEach [a, b] X.env = (false, eval a X.env) :: starEach [b] X.env := by rfl) (s2 : starEach [b] X.env = (false, eval b X.env) :: starEach [] X.env := by rfl) :
    SS1 X C c0 W (.Assign [.Tuple [.Name x px, .Name y py] kt pt] (.Tuple [a, b] k2 pt2) pos) (sParO i j m n) := by
  obtain ⟨t, p, s⟩ := h.out
  obtain ⟨u, q, r⟩ := k.out
  refine ⟨_, ps_par hc hN hi hj hij hx hy (pa_cons p (pa_cons q pa_nil s2) s1) hw hs, fun env σ c E hR hF => ?_⟩
  refine s env σ c _ hR.rl (hF.fn hR fun d c1 x1 w1 hR1 hF1 v dn => ?_)
  refine r env σ c1 _ hR1.rl (hF1.fn hR1 fun o c2 x2 w2 hR2 hF2 p n => ?_)
  exact ⟨v, .ref p, rfl, hF2 _ c2 rfl ((hR1.set dn).own x2 w2 n) (Since.refl _)⟩
end
end DL
end
set_option Elab.async false
set_option linter.all false
set_option maxRecDepth 100000
set_option maxHeartbeats 2000000
/-! # f(.., *xs) -/
noncomputable section
namespace DL
open PySem L2
open PyProof.Rows hiding St
section
variable {X : Cx} {C : Ct} {c0 : Cf} {W : WX} {tg : Expr}
def aStar (m : LE → M D) (n : LE → M (List D)) : LE → M (List D) := fun env => m env >>= fun d => rdS d >>= fun xs => n env >>= fun ys => pure (xs ++ ys)
theorem sa_star {e : Expr} {es : List Expr} {p : Pos} {m : LE → M D} {n : LE → M (List D)} (h : SE X C W e m) (k : SA X C W es n) (hK : X.K = C.K := by rfl) (hs : starEach (.Starred e p :: es) X.env = (true, eval e X.env) :: starEach es X.env := by rfl) : SA X C W (.Starred e p :: es) (aStar m n) := by
  obtain ⟨t, pe, se⟩ := h.out
  obtain ⟨u, pa, sa⟩ := k.out
  refine ⟨_, StX.pa_star pe pa hs, fun env σ c Q hR hF => ?_⟩
  refine se env σ c _ hR (Fn.bind hF fun d c1 e1 w1 hF1 v dn => ?_)
  obtain ⟨q, vs, ds, rfl, hq, l, hF2⟩ := rdS_sim w1 dn hF1
  refine ⟨q, vs, rfl, by rw [hK]; exact hq.symm, ?_⟩
  refine sa env σ c1 _ (hR.ext e1 w1) (Fn.bind hF2 fun ys c2 e2 w2 hF3 us du => ?_)
  exact Fn.ok w2 hF3 _ ((l.mono e2.g e2.pre).append du)
end
end DL
end
set_option Elab.async false
set_option linter.all false
set_option maxRecDepth 100000
set_option maxHeartbeats 2000000
/-! # x(e, ..), x a name of an instance -/
noncomputable section
namespace DL
open PySem L2
open PyProof.Rows hiding St
section
variable {X : Cx} {C : Ct} {c0 : Cf} {W : WX} {tg : Expr}
/-- a def run, as code -/
theorem fn_runC {k : Nat} {f : Addr} {fd : FuncData} {ps : List Str} {m : List D → M D} {pins : List (Addr × Obj)} {σ : L2.St} {c : Cf} {s : Shared} {Q : VK} {us : List Value} {vs : List V} {ds : List D} {args : Args} (hK : X.K = C.K) (F : FnG X.prog X.w C X.mg X.base k f fd ps m) (room : RoomG k X.A) (tk : Takes X W)
    (I : Inv X pins σ c.H s) (hb : BindsTo s fd args (ps.zip us)) (rv : Vals vs us) (wf : WF C c) (dn : DenL C c.G c.ρ ds vs) (hl : ds.length = ps.length) (hF : Fn C c (m ds c.s) (KD C Q) (fun a b H => W a b σ H)) :
    codeAny (model X.prog X.w) X.A (.call (.ref f) args) (fun r s' => match r with | .ok (.ret v) => EP X pins σ Q v s' | .ok _ => False | .error e => X.xe e s') s := by
  have e0 := I.env0
  rw [hK] at e0
  refine codeAny_mono (F.run X.A X.stack s c args us vs ds Q (WE W σ) room e0 hb rv wf dn hl hF) fun r s' z => ?_
  cases r with
  | error e => exact passAt tk σ pins c.H s e s' I z
  | ok fl =>
    cases fl with
    | ret u => exact I.after z
    | next => exact z.elim
    | brk => exact z.elim
    | cont => exact z.elim
def eCallI (k n : Nat) (m : List D → M D) (mo : LE → M D) (ma : LE → M (List D)) : LE → M D := fun env => mo env >>= fun x => insM x >>= fun _ => ma env >>= fun ds => insM x >>= fun p => guardM (decide (p.1 = k)) >>= fun _ => guardM (decide ((x :: ds).length = n)) >>= fun _ => m (x :: ds)
def tCallIG (C : Ct) (W : WX) (k n : Nat) (m : List D → M D) (to : TE) (t : TA) : TE := fun σ H Q => to σ H fun x H1 => ∃ a, x = .ref a ∧ t σ H1 fun vs H2 => (∃ dx gs, H2 a = some (.ins (C.ca k) dx gs)) ∧ ∃ c d ds, c.H = H2 ∧ WF C c ∧ Den C c.G c.ρ d x ∧ DenL C c.G c.ρ ds vs ∧ (d :: ds).length = n ∧ Fn C c (m (d :: ds) c.s) (KD C Q) (fun a b H => W a b σ H)
theorem se_callI {k n kr : Nat} {g : Addr} {fd : FuncData} {ps : List Str} {m : List D → M D} {y : Str} {e : Expr} {es : List Expr} {mo : LE → M D} {ma : LE → M (List D)} {p pos : Pos} (c : StX.CallO X.K (C.ca k) g) (F : FnG X.prog X.w C X.mg X.base kr g fd ps m) (room : RoomG kr X.A) (tk : Takes X W)
    (df : Dfl C fd ps []) (hn : ps.length = n) (ho : SE X C W (.Name y p) mo) (ha : SA X C W (e :: es) ma) (hK : X.K = C.K := by rfl)
    (hst : starEach (e :: es) X.env = (false, eval e X.env) :: starEach es X.env := by rfl) (hpl : (backTo pos (starEach es X.env)).any (·.1) = false := by rfl) : SE X C W (.Call (.Name y p) (e :: es) [] pos) (eCallI k n m mo ma) := by
  subst hn
  obtain ⟨to, po, so⟩ := ho.out
  obtain ⟨t, pa, sa⟩ := ha.out
  obtain ⟨dvs, dus, dv, db, dd⟩ := df.at'
  refine ⟨tCallIG C W k ps.length m to t, ⟨fun pins s σ H Q I h => ?_⟩, fun env σ c Q hR hF => ?_⟩
  · refine wpAny_Call_Name_kw (thn (po.run pins s σ H _ I h) fun u s1 z => ?_)
    obtain ⟨x, H1, I1, rx, a, ex, q⟩ := z
    subst ex
    obtain rfl : u = Value.ref a := rx
    refine StX.callO_with (thn (pa.run pos pins s1 σ H1 _ I1 q) fun us s2 z => ?_) hst hpl
    obtain ⟨vs, H2, I2, rv, ⟨dx, gs, ea⟩, c', d, ds, rfl, wf, dn, dnl, hl, hF⟩ := z
    obtain ⟨ox, od, J, hd⟩ := StX.insC_at I2 (.inr ⟨dx, gs, ea⟩)
    have d0 := dd c'.G c'.ρ
    have dvs0 : dvs = [] := by simpa only [DenL] using d0
    subst dvs0
    cases dv
    have hlen : ((Value.ref a :: us) ++ []).length = ps.length := by
      rw [← hl]
      simp [← rv.length, dnl.length]
    exact ⟨⟨_, ox, od, J, hd⟩, wpAny_call (PySem.W.kco_code I2.kIn J hd c.at_ c.fn c.fi (fn_runC (args := ⟨Value.ref a :: us, []⟩) (us := (Value.ref a :: us) ++ []) hK F room tk I2 (db s2 (Value.ref a :: us) (by rw [← hK]; exact I2.kIn) hlen) (by rw [List.append_nil]; exact .cons rfl rv) wf (ds := d :: ds) (vs := V.ref a :: vs) (.cons dn dnl) hl hF))⟩
  · refine so env σ c _ hR (Fn.bind hF fun x c1 e1 w1 hF1 v dn => ?_)
    obtain ⟨i, a, k', fs, dx, gs, rfl, rfl, _, _, hat, _, l, h2⟩ := insM_sim w1 dn hF1
    refine ⟨a, rfl, ?_⟩
    refine sa env σ c1 _ (hR.ext e1 w1) (Fn.bind h2 fun ds c2 e2 w2 hF2 vs dnl => ?_)
    have dn2 := dn.mono e2.g e2.pre
    obtain ⟨i', a', k2, fs', dx', gs', ei, ea, _, _, hat', _, l', h3⟩ := insM_sim w2 dn2 hF2
    cases ea
    obtain ⟨hg, h4⟩ := Fn.guard h3
    obtain ⟨hz, h5⟩ := Fn.guard h4
    obtain rfl : k2 = k := of_decide_eq_true hg
    exact ⟨⟨dx', gs', hat'⟩, c2, .loc i, ds, rfl, w2, dn2, dnl, of_decide_eq_true hz, h5⟩
end
end DL
end
set_option Elab.async false
set_option linter.all false
set_option maxRecDepth 100000
set_option maxHeartbeats 2000000
/-! # K.m(e, ..), m a static method of a class of the module -/
noncomputable section
namespace DL
open PySem L2
open PyProof.Rows hiding St
section
variable {X : Cx} {C : Ct} {c0 : Cf} {W : WX} {tg : Expr}
/-- what the class must have -/
structure SMet (K : PySem.W.Frag) (A : Addr) (m : Str) (f : Addr) : Prop where
  at' : ∃ mc p rest, PySem.W.readsIn K A mc = true ∧ PySem.W.specialIn K (.ref A) "__getattribute__" = some (some (.builtin "type.__getattribute__")) ∧
    PySem.W.findCls K (.ref A) mc m = some (.get (.builtin "staticmethod.__get__") (.ref p) .none (.ref A)) ∧ PySem.W.recIn K p "staticmethod" = some (.ref f :: rest)
  kp : PySem.W.keepIn K (.ref f) = true
theorem getsm_ok {pins : List (Addr × Obj)} {σ : L2.St} {H : Hp} {s : Shared} {a f : Addr} {m : Str} {A : Around} {E : Value → Shared → Prop} {pl : Sem Bool} {Q : Value × List Value → Shared → Prop} (I : Inv X pins σ H s) (k : SMet X.K a m f)
    (h : ∀ s', Inv X pins σ H s' → Q (.ref f, []) s') : wpAny (model X.prog X.w) A (getMethod (.ref a) m pl) Q E s := by
  obtain ⟨mc, p, rest, r1, r2, r3, r4⟩ := k.at'
  exact PySem.W.method_cls I.kIn r2 (PySem.W.cls_bind I.kIn r1 r3 (wpAny_call (PySem.W.sm_get (s := { s with toks := s.toks + 1 }) I.kIn r4 (PySem.W.handed_on rfl (h _ (I.tok _))))))
theorem se_static {kr : Nat} {f a : Addr} {fd : FuncData} {ps : List Str} {m : List D → M D} {x nm : Str} {e : Expr} {es : List Expr} {ma : LE → M (List D)} {dds : List D} {xp apos pos : Pos} {pl : Sem Bool} (k : SMet X.K a nm f) (F : FnG X.prog X.w C X.mg X.base kr f fd ps m) (room : RoomG kr X.A) (tk : Takes X W)
    (hm : X.mg x = some (.ref a)) (df : Dfl C fd ps dds) (ha : SA X C W (e :: es) ma) (hK : X.K = C.K := by rfl) (hg : Gl X x := by rfl) (hdb : (x == ("__debug__" : Str)) = false := by decide)
    (hst : starEach (e :: es) X.env = (false, eval e X.env) :: starEach es X.env := by rfl) (hpl : (backTo pos (starEach es X.env)).any (·.1) = false := by rfl)
    (ht : eval (.Call (.Attribute (.Name x xp) nm apos) (e :: es) [] pos) X.env = (do
      let ov ← eval (.Name x xp) X.env
      standAt apos.atName
      let (f, first) ← holding [ov] (getMethod ov nm pl)
      callWith pos f first (backTo pos (starEach (e :: es) X.env)) (backToKw pos (keywordEach [] X.env))) := by rfl) :
    SE X C W (.Call (.Attribute (.Name x xp) nm apos) (e :: es) [] pos) (eCall ps.length m dds ma) := by
  obtain ⟨t, pa, sa⟩ := ha.out
  obtain ⟨dvs, dus, dv, db, dd⟩ := df.at'
  refine ⟨tCallG C W ps.length m dvs dds t, ⟨fun pins s σ H Q I h => ?_⟩, fun env σ c Q hR hF => ?_⟩
  · refine PySem.W.methodCall_KW (pl := pl) (thn ((pe_glob (v := .ref a) (pos := xp) hg hm rfl hdb).run pins s σ H (fun v H1 => v = .ref a ∧ tCallG C W ps.length m dvs dds t σ H1 Q) I ⟨rfl, h⟩) fun u s1 z => ?_) ht
    obtain ⟨y, H1, I1, ry, rfl, q⟩ := z
    obtain rfl : u = Value.ref a := ry
    refine getsm_ok I1 k fun s' I' => ?_
    refine PySem.W.callWith_K (first := []) (h₀ := X.base) I'.ok.mod.kin k.kp (thn (pa.run pos pins s' σ H1 _ I' q) fun us s2 z => ?_) hst hpl
    obtain ⟨vs, H2, I2, rv, c, ds, rfl, wf, dn, hl, d2, hF⟩ := z
    refine ⟨I2.kIn, ?_⟩
    have hlen : (us ++ dus).length = ps.length := by
      rw [← hl, List.length_append, List.length_append, ← rv.length, ← dv.length, dn.length, d2.length]
    exact fn_run (args := ⟨us, []⟩) (us := us ++ dus) hK F room tk I2 (db s2 us (by rw [← hK]; exact I2.kIn) hlen) (rv.append dv) wf (dn.append d2) hl hF
  · refine sa env σ c _ hR (Fn.bind hF fun ds c1 e1 w1 hF1 vs dn => ?_)
    obtain ⟨hz, hF2⟩ := Fn.guard hF1
    exact ⟨c1, ds, rfl, w1, dn, of_decide_eq_true hz, dd _ _, hF2⟩
theorem se_static0 {kr : Nat} {f a : Addr} {fd : FuncData} {ps : List Str} {m : List D → M D} {x nm : Str} {dds : List D} {xp apos pos : Pos} {pl : Sem Bool} (k : SMet X.K a nm f) (F : FnG X.prog X.w C X.mg X.base kr f fd ps m) (room : RoomG kr X.A) (tk : Takes X W)
    (hm : X.mg x = some (.ref a)) (df : Dfl C fd ps dds) (hK : X.K = C.K := by rfl) (hg : Gl X x := by rfl) (hdb : (x == ("__debug__" : Str)) = false := by decide)
    (ht : eval (.Call (.Attribute (.Name x xp) nm apos) [] [] pos) X.env = (do
      let ov ← eval (.Name x xp) X.env
      standAt apos.atName
      let (f, first) ← holding [ov] (getMethod ov nm pl)
      callWith pos f first (backTo pos (starEach [] X.env)) (backToKw pos (keywordEach [] X.env))) := by rfl) :
    SE X C W (.Call (.Attribute (.Name x xp) nm apos) [] [] pos) (eCall ps.length m dds aNil) := by
  obtain ⟨dvs, dus, dv, db, dd⟩ := df.at'
  refine ⟨tCallG C W ps.length m dvs dds tNil, ⟨fun pins s σ H Q I h => ?_⟩, fun env σ c Q hR hF => ?_⟩
  · refine PySem.W.methodCall_KW (pl := pl) (thn ((pe_glob (v := .ref a) (pos := xp) hg hm rfl hdb).run pins s σ H (fun v H1 => v = .ref a ∧ tCallG C W ps.length m dvs dds tNil σ H1 Q) I ⟨rfl, h⟩) fun u s1 z => ?_) ht
    obtain ⟨y, H1, I1, ry, rfl, q⟩ := z
    obtain rfl : u = Value.ref a := ry
    refine getsm_ok I1 k fun s' I' => ?_
    obtain ⟨c, ds, rfl, wf, dn, hl, d2, hF⟩ := q
    have hlen : (([] : List Value) ++ dus).length = ps.length := by
      rw [← hl, List.length_append, List.length_append, ← dv.length, d2.length, ← dn.length]
      rfl
    refine PySem.W.callWith_K0 (first := []) I'.kIn k.kp ?_
    exact fn_run (args := ⟨[], []⟩) (us := [] ++ dus) hK F room tk I' (db s' [] (by rw [← hK]; exact I'.kIn) hlen) (Vals.append .nil dv) wf (dn.append d2) hl hF
  · obtain ⟨hz, hF2⟩ := Fn.guard hF
    exact ⟨c, [], rfl, hR.wf, .nil, of_decide_eq_true hz, dd _ _, hF2⟩
end
end DL
end
set_option Elab.async false
set_option linter.all false
set_option maxRecDepth 100000
set_option maxHeartbeats 2000000
/-! # f(e, .., k = v, ..) -/
noncomputable section
namespace DL
open PySem L2
open PyProof.Rows hiding St
section
variable {X : Cx} {C : Ct} {c0 : Cf} {W : WX} {tg : Expr}
def eCallK (n nk : Nat) (m : List D → M D) (gD : List D → List D → List D) (ma mk : LE → M (List D)) : LE → M D := fun env => ma env >>= fun ds => mk env >>= fun zs => guardM (decide (ds.length = n) && decide (zs.length = nk)) >>= fun _ => m (gD ds zs)
def tCallKG (C : Ct) (W : WX) (n nk : Nat) (m : List D → M D) (gD : List D → List D → List D) (t tk : TA) : TE := fun σ H Q => t σ H fun vs H1 => tk σ H1 fun ws H2 => ∃ c ds zs, c.H = H2 ∧ WF C c ∧ DenL C c.G c.ρ ds vs ∧ DenL C c.G c.ρ zs ws ∧ ds.length = n ∧ zs.length = nk ∧ Fn C c (m (gD ds zs) c.s) (KD C Q) (fun a b H => W a b σ H)
theorem se_callK {n nk kr : Nat} {f : Addr} {fd : FuncData} {ps ks : List Str} {m : List D → M D} {x : Str} {p pos : Pos} {e : Expr} {es : List Expr} {kws : List Keyword} {ma mk : LE → M (List D)} {gD : List D → List D → List D} (F : FnG X.prog X.w C X.mg X.base kr f fd ps m) (room : RoomG kr X.A) (tk : Takes X W) (hm : X.mg x = some (.ref f)) (hk : PySem.W.keepIn C.K (.ref f) = true)
    (kb : KBD C fd ps n ks gD) (hn : ks.length = nk) (ha : SA X C W (e :: es) ma) (hkw : SK X C W kws mk) (hK : X.K = C.K := by rfl) (hg : Gl X x := by rfl)
    (hall : (backToKw pos (keywordEach kws X.env)).all (·.1.isSome) = true := by rfl) (hks : (backToKw pos (keywordEach kws X.env)).filterMap (·.1) = ks := by rfl) (hdb : (x == ("__debug__" : Str)) = false := by decide)
    (he : starEach (e :: es) X.env = (false, eval e X.env) :: starEach es X.env := by rfl)
    (hpl : ((backTo pos (starEach (e :: es) X.env)).any (·.1) || (backToKw pos (keywordEach kws X.env)).any (·.1.isNone)) = false := by rfl) : SE X C W (.Call (.Name x p) (e :: es) kws pos) (eCallK n nk m gD ma mk) := by
  subst hn
  obtain ⟨t, pa, sa⟩ := ha.out
  obtain ⟨u, pk, sk⟩ := hkw.out
  obtain ⟨g, gV, kn, kd⟩ := kb.ex
  refine ⟨tCallKG C W n ks.length m gD t u, ⟨fun pins s σ H Q I h => ?_⟩, fun env σ c Q hR hF => ?_⟩
  · refine wpAny_Call_Name_kw (ld_glob I hg hm ?_ hdb)
    refine PySem.W.callWith_KW (h₀ := X.base) I.ok.mod.kin (by rw [hK]; exact hk) hall (thn (pa.run pos pins s σ H _ I h) fun us s1 z => ?_) hpl he
    obtain ⟨vs, H1, I1, r, q⟩ := z
    refine thn (pk.run pos pins s1 σ H1 _ I1 q) fun ws s2 z => ?_
    obtain ⟨zs, H2, I2, rz, c, ds, zd, rfl, wf, d1, d2, l1, l2, hF⟩ := z
    refine ⟨I2.kIn, ?_⟩
    rw [hks]
    obtain ⟨d3, l3⟩ := kd _ _ _ _ _ _ d1 d2 l1 l2
    have e1 : us.length = n := by rw [← r.length, d1.length, l1]
    have e2 : ws.length = ks.length := by rw [← rz.length, d2.length, l2]
    exact fn_run (args := ⟨us, ks.zip ws⟩) (us := g us ws) hK F room tk I2 (kn.to s2 us ws (by rw [← hK]; exact I2.kIn) e1 e2) (kn.rel r rz) wf d3 l3 hF
  · refine sa env σ c _ hR (Fn.bind hF fun ds c1 e1 w1 hF1 vs dn => ?_)
    refine sk env σ c1 _ (hR.ext e1 w1) (Fn.bind hF1 fun zs c2 e2 w2 hF2 ws dz => ?_)
    obtain ⟨hz, hF3⟩ := Fn.guard hF2
    rw [Bool.and_eq_true] at hz
    exact ⟨c2, ds, zs, rfl, w2, dn.mono e2.g e2.pre, dz, of_decide_eq_true hz.1, of_decide_eq_true hz.2, hF3⟩
/-- no positional defaults; the keyword-only ones that lack are filled up -/
theorem KBD.dfl {K : PySem.W.Frag} {y qual : Str} {params : Arguments} {body : List Stmt} {scope : Scope} {kws : List (Str × V)} {f : Addr} {fd : FuncData} {ps : List Str} (F : FunD C.K y qual params body scope [] kws f fd) (n : Nat) (ks : List Str) (ms : List (Str × V)) (g : {α : Type} → List α → List α → List α → List α) (dm : List D)
    (hk : kws ≠ []) (hms : ∀ q ∈ ms, q ∈ kws) (hrel : ∀ {vs mz zs : List V} {us mv ws : List Value}, Vals vs us → Vals mz mv → Vals zs ws → Vals (g vs mz zs) (g us mv ws))
    (h : ∀ (Da : Addr) (doc pm : Value) (an : Option Addr) (cdv ct : Value) (us mv ws : List Value), us.length = n → mv.length = ms.length → ws.length = ks.length →
      KwChain Da ((ms.map (·.1)).zip mv) (bindArgs (PySem.W.fnOf y qual params body scope .none (.ref Da) doc pm an cdv ct) ⟨us, ks.zip ws⟩) (ps.zip (g us mv ws)))
    (hd : ∀ G ρ ds zs vs ws, DenL C G ρ ds vs → DenL C G ρ zs ws → ds.length = n → zs.length = ks.length → DenL C G ρ (g ds dm zs) (g vs (ms.map (·.2)) ws) ∧ (g ds dm zs).length = ps.length) : KBD C fd ps n ks (fun ds zs => g ds dm zs) := by
  obtain ⟨mv, kn⟩ := F.kbinds0 n ks ms g hk hms hrel h
  exact ⟨_, _, kn, hd⟩
end
end DL
end
set_option Elab.async false
set_option linter.all false
set_option maxRecDepth 100000
set_option maxHeartbeats 2000000
/-! # a tuple * 0, * 1 -/
noncomputable section
namespace DL
open PySem L2
open PyProof.Rows hiding St
open PySem.AutoSeq1 (wpAny_loadPart')
theorem tup_mul1 (l : Addr) (items : Array Value) (n : Nat) (sl : Array (Option Value)) (u : Tok) (dd : Option Addr) :
    Meets (Builtin.«tuple.__mul__» ⟨[.ref l, .int 1 u], []⟩) (fun _ R s => s.heap.get? l = some { cls := .type "tuple", dict := dd, data := .seq items n, slots := sl } ∧ R (.ok (.ret (.ref l))) s) :=
  .of_wp fun prog w A R s h => by
    obtain ⟨hp, g, d, tk, os⟩ := s
    obtain ⟨hl, h⟩ := h
    have f1 := PySem.AutoSeq1.idx_int
    have c0 : (decide ((1 : Int) < -(2 ^ 63)) || decide ((1 : Int) ≥ 2 ^ 63)) = false := by decide
    have c1 : (items.isEmpty || (1 : Int) == 1) = true := by simp
    wp_walk using wpAny_loadPart' hl
    exact ⟨_, rfl, h⟩
theorem tup_mul0 (l : Addr) (items : Array Value) (n : Nat) (sl : Array (Option Value)) (u : Tok) (dd : Option Addr) (he : items.isEmpty = false) :
    Meets (Builtin.«tuple.__mul__» ⟨[.ref l, .int 0 u], []⟩) (fun _ R s => s.heap.get? l = some { cls := .type "tuple", dict := dd, data := .seq items n, slots := sl } ∧ R (.ok (.ret (.ref s.heap.objs.size))) { s with heap := s.heap.push { cls := Value.type "tuple", data := Data.seq #[] } }) :=
  .of_wp fun prog w A R s h => by
    obtain ⟨hp, g, d, tk, os⟩ := s
    obtain ⟨hl, h⟩ := h
    have f1 := PySem.AutoSeq1.idx_int
    have c0 : (decide ((0 : Int) < -(2 ^ 63)) || decide ((0 : Int) ≥ 2 ^ 63)) = false := by decide
    have c1 : (items.isEmpty || (0 : Int) == 1) = false := by rw [he]; rfl
    have c2 : (decide ((0 : Int) ≤ 0) || items.isEmpty) = true := by rfl
    wp_walk using wpAny_loadPart' hl
    exact ⟨_, rfl, h⟩
section
variable {X : Cx} {C : Ct}
def rRep01 (K : PySem.W.Frag) : R2 := fun x y H Q => ∃ l k xs, x = .ref l ∧ y = .int k ∧ SqT K H l xs ∧ xs ≠ [] ∧ ((k = 1 ∧ Q (.ref l) H) ∨ (k = 0 ∧ ∀ p, H p = none → Q (.ref p) (upd H p (.tup []))))
theorem op_rep01 : OpR X (binaryOp .Mult) (rRep01 X.K) := by
  intro pins s σ H x y v u Q I rx ry h
  obtain ⟨l, k, xs, rfl, rfl, hT, hne, q⟩ := h
  cases rx
  obtain ⟨t, rfl⟩ := ry
  obtain ⟨its, r, ⟨⟨cls, dd, data, sl⟩, ho, hc, n, hd⟩, hs⟩ := I.tuple hT
  simp only at hc hd
  subst hc hd
  have hi : its.toArray.isEmpty = false := by
    cases its with
    | nil => cases r; exact absurd rfl hne
    | cons a b => rfl
  refine wpAny_binaryOp_repeat_ref (T := "tuple") (U := "int") (by decide) ⟨_, ho, rfl⟩ (fun s' => typeIs_int s' k t) noFill_tuple_mul F.fills_int_mul F.slot_int_rmul repeat_tuple F.slot_int_index.lookup
    (call_meets F.slot_int_rmul (typeIs_int s k t) F.entry_int_rmul (F.args_int_rmul_2 _ _) (int_rmul_tuple k t l its.toArray n dd sl) ⟨ho, rfl, ⟨_, ho, rfl⟩, ?_⟩)
  rcases q with ⟨rfl, q⟩ | ⟨rfl, q⟩
  · exact call_meets F.slot_tuple_mul ⟨_, ho, rfl⟩ F.entry_tuple_mul (F.args_tuple_mul_2 _ _) (tup_mul1 l its.toArray n sl t dd) ⟨ho, .ref l, H, I, rfl, q⟩
  · refine call_meets F.slot_tuple_mul ⟨_, ho, rfl⟩ F.entry_tuple_mul (F.args_tuple_mul_2 _ _) (tup_mul0 l its.toArray n sl t dd hi) ⟨ho, ?_⟩
    refine ⟨.ref s.heap.objs.size, _, I.laid (t' := s.toks) (o := .tup []) (fun b ob q => Heap.get?_push_of_some _ q) (Nat.le_refl _) ?_, rfl, q _ (I.hok.fresh (Nat.le_refl _))⟩
    exact ⟨by show 0 ≤ sizeLine; exact Nat.zero_le _, [], .nil, IsTup.new _ _⟩
/-- a tuple that is not empty, times 0 or 1 -/
def oRep01 (x y : D) : M D := match x, y with
  | .tup (d :: ds), .int k => if k = 1 then pure (.tup (d :: ds)) else if k = 0 then pure (.tup []) else mStuck
  | _, _ => mStuck
theorem s_rep01 : SimO C (rRep01 C.K) oRep01 := by
  intro c x y v w Q E wf dx dy hF
  cases x <;> first | exact False.elim hF | skip
  rename_i ds
  cases ds with
  | nil => cases y <;> exact False.elim hF
  | cons d ds =>
    cases y <;> first | exact False.elim hF | skip
    rename_i k
    have hF' : Fn C c ((if k = 1 then pure (.tup (d :: ds)) else if k = 0 then pure (.tup []) else mStuck : M D) c.s) (KD C Q) E := hF
    have dx0 := dx
    obtain ⟨a, xs, rfl, h1, l⟩ := dx
    cases (show w = _ from dy)
    have hne : xs ≠ [] := by
      simp only [DenL] at l
      obtain ⟨_, _, rfl, _⟩ := l
      simp
    refine ⟨a, k, xs, rfl, rfl, wf.ext.sqt h1, hne, ?_⟩
    by_cases q1 : k = 1
    · rw [if_pos q1] at hF'
      exact .inl ⟨q1, Fn.ok wf hF' _ dx0⟩
    · rw [if_neg q1] at hF'
      by_cases q0 : k = 0
      · rw [if_pos q0] at hF'
        refine .inr ⟨q0, fun p hp => ?_⟩
        obtain ⟨w3, e3⟩ := lay_frozen (o := .tup []) wf hp
        exact hF' ⟨upd c.H p (.tup []), upd c.G p (.tup []), c.ρ, c.s⟩ rfl e3 w3 _ ⟨p, [], rfl, SqT.of upd_same, .nil⟩
      · rw [if_neg q0] at hF'
        exact False.elim hF'
end
end DL
end
set_option Elab.async false
set_option linter.all false
set_option maxRecDepth 100000
set_option maxHeartbeats 2000000
/-! # Dicts that are walked -/
namespace DL
open PySem L2
open PyProof.Rows hiding St
def unl {α : Type} (n : Nat) (a : α) : M α := fun s => match s[n]? with
  | some (some (.lk kvs)) => .ok a (s.set n (some (.dct kvs)))
  | _ => .stuck
/-- the dict that mo tells is locked while m runs -/
def mLock {α : Type} (mo : LE → M D) (m : LE → M α) : LE → M α := fun env s => match mo env s with
  | .ok (.loc n) _ => match s[n]? with
    | some (some (.dct kvs)) => match m env (s.set n (some (.lk kvs))) with
      | .ok a s' => unl n a s'
      | _ => .stuck
    | _ => .stuck
  | _ => .stuck
section
variable {X : Cx} {C : Ct} {c0 : Cf} {W : WX}
theorem WF.unlock {c : Cf} {n : Nat} {kvs : List (Key × D)} {a : Addr} {od : Obj} {ws : List (Key × V)} (w : WF C c) (hs : c.s[n]? = some (some (.lk kvs))) (hr : c.ρ[n]? = some a) (hh : c.H a = some (.frz od (.dK ws))) :
    WF C ⟨upd c.H a (.dK ws), c.G, c.ρ, c.s.set n (some (.dct kvs))⟩ := by
  obtain ⟨a', ho, r1, r2, r3, r4⟩ := w.cel n _ hs
  rw [hr] at r1
  cases r1
  obtain ⟨o', ws', rfl, l⟩ := r4
  rw [hh] at r3
  cases r3
  refine ⟨fun x u e => ?_, by simp [w.len], w.nd, fun x hx => ?_, fun m u e => ?_⟩
  · have ne : x ≠ a := fun z => by subst z; have e' : c.G x = some u := e; rw [r2] at e'; cases e'
    show upd c.H a _ x = some u
    rw [upd_ne ne]
    exact w.ext x u e
  · show upd c.H a _ x ≠ none
    by_cases ne : x = a
    · subst ne; rw [upd_same]; simp
    · rw [upd_ne ne]; exact w.dom x hx
  · rcases get_set e with ⟨rfl, e', _⟩ | ⟨hm, e⟩
    · cases e'
      exact ⟨a, _, hr, r2, upd_same, ws, rfl, l⟩
    · obtain ⟨x, hx, q1, q2, q3, q4⟩ := w.cel m u e
      have ne : x ≠ a := fun z => by
        subst z
        exact hm (nd_ix w.nd q1 hr)
      exact ⟨x, hx, q1, q2, by show upd c.H a _ x = _; rw [upd_ne ne]; exact q3, q4⟩
theorem Ext.unlock {c c' : Cf} {a : Addr} {ws : List (Key × V)} {s : S} (e : Ext c c') (hd : c.H a = some (.dK ws)) (am : a ∈ c.ρ) : Ext c ⟨upd c'.H a (.dK ws), c'.G, c'.ρ, s⟩ := by
  refine ⟨e.g, e.fr, fun x o h nx => ?_, fun x d => ?_, e.pr, fun x o u h => ?_⟩
  · have ne : x ≠ a := fun z => by subst z; exact nx am
    show upd c'.H a _ x = _
    rw [upd_ne ne]
    exact e.kp x o h nx
  · show upd c'.H a _ x ≠ none
    by_cases ne : x = a
    · subst ne; rw [upd_same]; simp
    · rw [upd_ne ne]; exact e.dom x d
  · have ne : x ≠ a := fun z => by subst z; rw [hd] at h; cases h
    show upd c'.H a _ x = _
    rw [upd_ne ne]
    exact e.lk x o u h
theorem lock_at {c : Cf} {n : Nat} {kvs : List (Key × D)} (w : WF C c) (hs : c.s[n]? = some (some (.dct kvs))) :
    ∃ a ws, c.ρ[n]? = some a ∧ a ∈ c.ρ ∧ c.H a = some (.dK ws) ∧ ∀ od, WF C ⟨upd c.H a (.frz od (.dK ws)), c.G, c.ρ, c.s.set n (some (.lk kvs))⟩ ∧ Ext c ⟨upd c.H a (.frz od (.dK ws)), c.G, c.ρ, c.s.set n (some (.lk kvs))⟩ := by
  obtain ⟨a, ho, r1, r2, r3, ws, rfl, l⟩ := w.cel n _ hs
  exact ⟨a, ws, r1, List.mem_of_getElem? r1, r3, fun od => w.cell hs r1 ⟨od, ws, rfl, l⟩⟩
theorem lock_fn {α : Type} {m : LE → M α} {mo : LE → M D} {env : LE} {c : Cf} {K : α → Cf → Prop} {E : XK} (w : WF C c) (hF : Fn C c (mLock mo m env c.s) K E) :
    ∃ a ws, c.H a = some (.dK ws) ∧ ∀ od, ∃ cL, cL.H = upd c.H a (.frz od (.dK ws)) ∧ WF C cL ∧ Ext c cL ∧ ∀ E', Fn C cL (m env cL.s) (fun o c' => c'.H a = some (.frz od (.dK ws)) ∧ a ∈ c'.ρ ∧ ∃ s, Ext c ⟨upd c'.H a (.dK ws), c'.G, c'.ρ, s⟩ ∧ K o ⟨upd c'.H a (.dK ws), c'.G, c'.ρ, s⟩) E' := by
  unfold mLock at hF
  cases e1 : mo env c.s with
  | exc k fs s' => rw [e1] at hF; exact False.elim hF
  | stuck => rw [e1] at hF; exact False.elim hF
  | ok d s1 =>
    rw [e1] at hF
    cases d <;> first | exact False.elim hF | skip
    rename_i n
    cases e2 : c.s[n]? with
    | none => simp only [e2] at hF; exact False.elim hF
    | some o =>
      cases o with
      | none => simp only [e2] at hF; exact False.elim hF
      | some o =>
        cases o with
        | lst _ => simp only [e2] at hF; exact False.elim hF
        | ins _ _ => simp only [e2] at hF; exact False.elim hF
        | lk _ => simp only [e2] at hF; exact False.elim hF
        | dct kvs =>
          simp only [e2] at hF
          obtain ⟨a, ws, r1, am, hh, k⟩ := lock_at w e2
          refine ⟨a, ws, hh, fun od => ?_⟩
          obtain ⟨wL, xL⟩ := k od
          refine ⟨_, rfl, wL, xL, fun E' => ?_⟩
          show Fn C _ (m env (c.s.set n (some (.lk kvs)))) _ _
          cases e3 : m env (c.s.set n (some (.lk kvs))) with
          | exc k fs s' => simp only [e3] at hF; exact False.elim hF
          | stuck => simp only [e3] at hF; exact False.elim hF
          | ok o s' =>
            simp only [e3] at hF
            intro c' q x w'
            have lk' := x.lk a od (.dK ws) upd_same
            refine ⟨lk', x.pre.mem am, ?_⟩
            unfold unl at hF
            rw [← q] at hF
            cases e4 : c'.s[n]? with
            | none => simp only [e4] at hF; exact False.elim hF
            | some o' =>
              cases o' with
              | none => simp only [e4] at hF; exact False.elim hF
              | some o' =>
                cases o' with
                | lst _ => simp only [e4] at hF; exact False.elim hF
                | ins _ _ => simp only [e4] at hF; exact False.elim hF
                | dct _ => simp only [e4] at hF; exact False.elim hF
                | lk kvs' =>
                  simp only [e4] at hF
                  have x2 : Ext c ⟨upd c'.H a (.dK ws), c'.G, c'.ρ, c'.s.set n (some (.dct kvs'))⟩ := (xL.trans x).unlock hh am
                  exact ⟨_, x2, hF _ rfl x2 (w'.unlock e4 (x.pre.get r1) lk')⟩
theorem sn_lock {e : Expr} {m : LE → M O} (mo : LE → M D) (h : SN X C W e m) : SN X C W e (mLock mo m) := by
  obtain ⟨t, p, s⟩ := h.out
  refine ⟨_, pe_lock p, fun env σ c Q hR hF => ?_⟩
  obtain ⟨a, ws, hh, k⟩ := lock_fn hR.wf hF
  refine ⟨a, _, hh, trivial, fun od => ?_⟩
  obtain ⟨cL, eH, wL, xL, kk⟩ := k od
  rw [← eH]
  refine s env σ cL _ (hR.ext xL wL) ((kk _).imp fun o c' x w ⟨l1, l2, s2, x2, h2⟩ p np => ⟨l1, ?_⟩)
  obtain ⟨ho, q1, q2⟩ := np.at'
  have ne : p ≠ a := fun z => by subst z; exact np.r l2
  exact h2 p ⟨xL.free np.fresh, np.g, np.r, ho, by show upd c'.H a _ p = _; rw [upd_ne ne]; exact q1, q2⟩
theorem se_lock {e : Expr} {m : LE → M D} (mo : LE → M D) (h : SE X C W e m) : SE X C W e (mLock mo m) := by
  obtain ⟨t, p, s⟩ := h.out
  refine ⟨_, pe_lock p, fun env σ c Q hR hF => ?_⟩
  obtain ⟨a, ws, hh, k⟩ := lock_fn hR.wf hF
  refine ⟨a, _, hh, trivial, fun od => ?_⟩
  obtain ⟨cL, eH, wL, xL, kk⟩ := k od
  rw [← eH]
  exact s env σ cL _ (hR.ext xL wL) ((kk _).imp fun o c' x w ⟨l1, l2, s2, x2, h2⟩ v dn => ⟨l1, h2 v dn⟩)
/-! ### statements -/
def unlS (n : Nat) (f : Fl) : S → SR := fun s => match s[n]? with
  | some (some (.lk kvs)) => some (f, s.set n (some (.dct kvs)))
  | _ => none
def sLock (mo : LE → M D) (m : SM) : SM := fun env s => match mo env s with
  | .ok (.loc n) _ => match s[n]? with
    | some (some (.dct kvs)) => match m env (s.set n (some (.lk kvs))) with
      | some (.nx env', s') => unlS n (.nx env') s'
      | some (.bk env', s') => unlS n (.bk env') s'
      | some (.ct env', s') => unlS n (.ct env') s'
      | _ => none
    | _ => none
  | _ => none
theorem Rl.heap {c c' : Cf} {env : LE} {σ : L2.St} {a : Addr} {o : HO} {s : S} (h : Rl C env σ c) (am : a ∈ c.ρ) (w : WF C ⟨upd c.H a o, c.G, c.ρ, s⟩) : Rl C env σ ⟨upd c.H a o, c.G, c.ρ, s⟩ := by
  refine ⟨w, h.len, h.val, fun i u q => ?_, h.apart⟩
  obtain ⟨b, ho, q1, q2, q3, q4, q5⟩ := h.own i u q
  exact ⟨b, ho, q1, q2, q3, by show upd c.H a _ b = _; rw [upd_ne (fun z => by subst z; exact q3 am)]; exact q4, q5⟩
theorem unlS_fs {c c0' cL c' : Cf} {env' : LE} {σ' : L2.St} {n : Nat} {a : Addr} {od : Obj} {ws : List (Key × V)} {f : Fl} {s' : S} {D : Ends} (r1 : c.ρ[n]? = some a) (hh : c.H a = some (.dK ws)) (xL : Ext c cL) (hl : cL.H a = some (.frz od (.dK ws)))
    (h : FS C c0 c W D (unlS n f s')) (q : c'.s = s') (R : RlS C c0 env' σ' c') (y : Since cL c') (x0 : Ext c0 c) :
    c'.H a = some (.frz od (.dK ws)) ∧ ∃ s2, unlS n f s' = some (f, s2) ∧ RlS C c0 env' σ' ⟨upd c'.H a (.dK ws), c'.G, c'.ρ, s2⟩ ∧ Since c ⟨upd c'.H a (.dK ws), c'.G, c'.ρ, s2⟩ := by
  have lk' := y.lk a od (.dK ws) hl
  refine ⟨lk', ?_⟩
  subst q
  have r2 : c'.ρ[n]? = some a := (xL.since.trans y).r.get r1
  have am : a ∈ c'.ρ := List.mem_of_getElem? r2
  unfold unlS at h ⊢
  cases e4 : c'.s[n]? with
  | none => simp only [e4] at h; exact False.elim h
  | some o' =>
    cases o' with
    | none => simp only [e4] at h; exact False.elim h
    | some o' =>
      cases o' with
      | lst _ => simp only [e4] at h; exact False.elim h
      | ins _ _ => simp only [e4] at h; exact False.elim h
      | dct _ => simp only [e4] at h; exact False.elim h
      | lk kvs' =>
        have w2 := R.rl.wf.unlock e4 r2 lk'
        have nz : ∀ x o u, c.H x = some (.frz o u) → x ≠ a := fun x o u e z => by subst z; rw [hh] at e; cases e
        have n0 : ∀ x u, c0.H x = some u → x ∉ c0.ρ → x ≠ a := fun x u e nx z => by
          subst z
          obtain ⟨m, em, fm⟩ := x0.pr
          have hm := List.mem_of_getElem? r1
          rw [em] at hm
          rcases List.mem_append.mp hm with hm | hm
          · exact nx hm
          · have := fm x hm
            rw [e] at this
            cases this
        refine ⟨_, rfl, ⟨R.rl.heap (c' := c') am w2, ⟨R.ext.g, R.ext.fr, fun x o e nx => ?_, fun x d => ?_, R.ext.pr, fun x o u e => ?_⟩, R.mine⟩, ⟨(xL.since.trans y).g, (xL.since.trans y).r, fun x o u e => ?_⟩⟩
        · show upd c'.H a _ x = _
          rw [upd_ne (n0 x o e nx)]
          exact R.ext.kp x o e nx
        · show upd c'.H a _ x ≠ none
          by_cases ne : x = a
          · subst ne; rw [upd_same]; simp
          · rw [upd_ne ne]; exact R.ext.dom x d
        · show upd c'.H a _ x = _
          rw [upd_ne (nz x o u (x0.lk x o u e))]
          exact R.ext.lk x o u e
        · show upd c'.H a _ x = _
          rw [upd_ne (nz x o u e)]
          exact (xL.since.trans y).lk x o u e
theorem s1_lock {st : Stmt} {m : SM} (mo : LE → M D) (h : SS1 X C c0 W st m) : SS1 X C c0 W st (sLock mo m) := by
  obtain ⟨t, p, s⟩ := h.out
  refine ⟨_, ps_lock p, fun env σ c E hR hF => ?_⟩
  unfold sLock at hF
  cases e1 : mo env c.s with
  | exc k fs s' => rw [e1] at hF; exact False.elim hF
  | stuck => rw [e1] at hF; exact False.elim hF
  | ok d s1 =>
    rw [e1] at hF
    cases d <;> first | exact False.elim hF | skip
    rename_i n
    cases e2 : c.s[n]? with
    | none => simp only [e2] at hF; exact False.elim hF
    | some o =>
      cases o with
      | none => simp only [e2] at hF; exact False.elim hF
      | some o =>
        cases o with
        | lst _ => simp only [e2] at hF; exact False.elim hF
        | ins _ _ => simp only [e2] at hF; exact False.elim hF
        | lk _ => simp only [e2] at hF; exact False.elim hF
        | dct kvs =>
          simp only [e2] at hF
          obtain ⟨a, ws, r1, am, hh, k⟩ := lock_at hR.rl.wf e2
          refine ⟨a, _, hh, trivial, fun od => ?_⟩
          obtain ⟨wL, xL⟩ := k od
          refine s env σ ⟨upd c.H a (.frz od (.dK ws)), c.G, c.ρ, c.s.set n (some (.lk kvs))⟩ _ (hR.step xL wL) ?_
          show FS C c0 _ W _ (m env (c.s.set n (some (.lk kvs))))
          cases e3 : m env (c.s.set n (some (.lk kvs))) with
          | none => simp only [e3] at hF; exact False.elim hF
          | some r =>
            obtain ⟨f, s'⟩ := r
            cases f with
            | rt d => simp only [e3] at hF; exact False.elim hF
            | xc k fs env' => simp only [e3] at hF; exact False.elim hF
            | nx env' =>
              simp only [e3] at hF
              intro σ' c' q R y
              obtain ⟨g1, s2, g2, g3, g4⟩ := unlS_fs (c0' := c0) r1 hh xL upd_same hF q R y hR.ext
              rw [g2] at hF
              exact ⟨g1, hF σ' _ rfl g3 g4⟩
            | bk env' =>
              simp only [e3] at hF
              intro σ' c' q R y
              obtain ⟨g1, s2, g2, g3, g4⟩ := unlS_fs (c0' := c0) r1 hh xL upd_same hF q R y hR.ext
              rw [g2] at hF
              exact ⟨g1, hF σ' _ rfl g3 g4⟩
            | ct env' =>
              simp only [e3] at hF
              intro σ' c' q R y
              obtain ⟨g1, s2, g2, g3, g4⟩ := unlS_fs (c0' := c0) r1 hh xL upd_same hF q R y hR.ext
              rw [g2] at hF
              exact ⟨g1, hF σ' _ rfl g3 g4⟩
/-! ### what is walked -/
def lkM (d : D) : M (List (Key × D)) := match d with
  | .loc n => fun s => match s[n]? with
    | some (some (.lk kvs)) => .ok kvs s
    | _ => .stuck
  | _ => mStuck
theorem lkM_sim {c : Cf} {d : D} {v : V} {β : Type} {f : List (Key × D) → M β} {K : β → Cf → Prop} {E : XK} (w : WF C c) (dn : Den C c.G c.ρ d v) (h : Fn C c ((lkM d >>= f) c.s) K E) :
    ∃ a o ws kvs, v = .ref a ∧ c.H a = some (.frz o (.dK ws)) ∧ DenK C c.G c.ρ kvs ws ∧ Fn C c (f kvs c.s) K E := by
  cases d <;> first | exact False.elim h | skip
  rename_i n
  obtain ⟨a, rfl, ha⟩ := dn
  have h' : Fn C c (R.bind (match c.s[n]? with
    | some (some (.lk kvs)) => R.ok kvs c.s
    | _ => R.stuck) f) K E := h
  cases q : c.s[n]? with
  | none => rw [q] at h'; exact False.elim h'
  | some o =>
    cases o with
    | none => rw [q] at h'; exact False.elim h'
    | some o =>
      obtain ⟨b, ho, r1, r2, r3, r4⟩ := w.cel n o q
      rw [ha] at r1
      cases r1
      rw [q] at h'
      cases o with
      | lst ds => exact False.elim h'
      | ins k fs => exact False.elim h'
      | dct ds => exact False.elim h'
      | lk kvs => obtain ⟨oo, ws, rfl, l⟩ := r4; exact ⟨a, oo, ws, kvs, rfl, r3, l, h'⟩
theorem DenK.iff {G : Hp} {ρ : List Addr} : ∀ {kvs : List (Key × D)} {ws : List (Key × V)}, DenK C G ρ kvs ws → ∀ i : Nat, (∀ k d, kvs[i]? = some (k, d) → ∃ v, ws[i]? = some (k, v) ∧ Den C G ρ d v) ∧ (kvs[i]? = none → ws.length ≤ i) := by
  intro kvs
  induction kvs with
  | nil =>
    intro ws h i
    simp only [DenK] at h
    subst h
    exact ⟨fun k d e => (by simp at e), fun _ => Nat.zero_le _⟩
  | cons p r ih =>
    obtain ⟨k, d⟩ := p
    intro ws h i
    simp only [DenK] at h
    obtain ⟨v, r', rfl, h1, h2⟩ := h
    cases i with
    | zero => exact ⟨fun k' d' e => (by simp only [List.getElem?_cons_zero, Option.some.injEq] at e; cases e; exact ⟨v, by simp, h1⟩), fun e => (by simp at e)⟩
    | succ i =>
      obtain ⟨i1, i2⟩ := ih h2 i
      exact ⟨fun k' d' e => by simpa using i1 k' d' (by simpa using e), fun e => by simpa using i2 (by simpa using e)⟩
theorem walks_keys {c : Cf} {a : Addr} {o : Obj} {kvs : List (Key × D)} {ws : List (Key × V)} (ha : c.H a = some (.frz o (.dK ws))) (l : DenK C c.G c.ρ kvs ws) : Walks C c (Itk a o ws) (kvs.map fun kv => keyOf kv.1) := by
  intro c2 g r w lk i
  obtain ⟨h1, h2⟩ := l.iff i
  have hq := lk _ _ _ ha
  refine ⟨fun d e => ?_, fun e => ⟨hq, h2 ?_⟩⟩
  · rw [List.getElem?_map] at e
    cases q : kvs[i]? with
    | none => rw [q] at e; cases e
    | some p =>
      rw [q] at e
      cases e
      obtain ⟨v, e1, dn⟩ := h1 p.1 p.2 q
      refine ⟨⟨hq, (List.getElem?_eq_some_iff.mp e1).1⟩, fun x H3 y => ?_⟩
      obtain ⟨rfl, k', v', e2, rfl⟩ := y
      rw [e1] at e2
      cases e2
      exact ⟨c2, rfl, rfl, Ext.refl _, w, keyOf_den _⟩
  · rw [List.getElem?_map] at e
    exact Option.map_eq_none_iff.mp e
theorem walks_vals {c : Cf} {a : Addr} {o : Obj} {kvs : List (Key × D)} {ws : List (Key × V)} (ha : c.H a = some (.frz o (.dK ws))) (l : DenK C c.G c.ρ kvs ws) : Walks C c (Itd a o ws) (kvs.map fun kv => kv.2) := by
  intro c2 g r w lk i
  obtain ⟨h1, h2⟩ := l.iff i
  have hq := lk _ _ _ ha
  refine ⟨fun d e => ?_, fun e => ⟨hq, h2 ?_⟩⟩
  · rw [List.getElem?_map] at e
    cases q : kvs[i]? with
    | none => rw [q] at e; cases e
    | some p =>
      rw [q] at e
      cases e
      obtain ⟨v, e1, dn⟩ := h1 p.1 p.2 q
      refine ⟨⟨hq, (List.getElem?_eq_some_iff.mp e1).1⟩, fun x H3 y => ?_⟩
      obtain ⟨rfl, k', e2⟩ := y
      rw [e1] at e2
      cases e2
      exact ⟨c2, rfl, rfl, Ext.refl _, w, dn.mono g r⟩
  · rw [List.getElem?_map] at e
    exact Option.map_eq_none_iff.mp e
theorem walks_items {c : Cf} {a : Addr} {o : Obj} {kvs : List (Key × D)} {ws : List (Key × V)} (ha : c.H a = some (.frz o (.dK ws))) (l : DenK C c.G c.ρ kvs ws) : Walks C c (Iti a o ws) (kvs.map fun kv => .tup [keyOf kv.1, kv.2]) := by
  intro c2 g r w lk i
  obtain ⟨h1, h2⟩ := l.iff i
  have hq := lk _ _ _ ha
  refine ⟨fun d e => ?_, fun e => ⟨hq, h2 ?_⟩⟩
  · rw [List.getElem?_map] at e
    cases q : kvs[i]? with
    | none => rw [q] at e; cases e
    | some p =>
      rw [q] at e
      cases e
      obtain ⟨v, e1, dn⟩ := h1 p.1 p.2 q
      refine ⟨⟨hq, (List.getElem?_eq_some_iff.mp e1).1⟩, fun x H3 y => ?_⟩
      obtain ⟨T, k', v', e2, rfl, hT, rfl⟩ := y
      rw [e1] at e2
      cases e2
      obtain ⟨w3, e3⟩ := lay_frozen (o := .tup [kV p.1, v]) w hT
      exact ⟨⟨_, _, c2.ρ, c2.s⟩, rfl, rfl, e3, w3, T, _, rfl, SqT.of upd_same, .cons (keyOf_den _) (.one ((dn.mono g r).mono e3.g e3.pre))⟩
  · rw [List.getElem?_map] at e
    exact Option.map_eq_none_iff.mp e
variable {tg : Expr}
def iKeysD (m : LE → M D) : LE → M (List D) := fun env => m env >>= fun d => lkM d >>= fun kvs => pure (kvs.map fun kv => keyOf kv.1)
def iValsD (m : LE → M D) : LE → M (List D) := fun env => m env >>= fun d => lkM d >>= fun kvs => pure (kvs.map fun kv => kv.2)
def iItemsD (m : LE → M D) : LE → M (List D) := fun env => m env >>= fun d => lkM d >>= fun kvs => pure (kvs.map fun kv => .tup [keyOf kv.1, kv.2])
theorem si_keys {e : Expr} {m : LE → M D} (h : SE X C W e m) : SI X C W tg e (iKeysD m) := by
  obtain ⟨t, p, s⟩ := h.out
  refine ⟨_, pi_keys p, fun env σ c R hR hF => ?_⟩
  refine s env σ c _ hR (Fn.bind hF fun x c1 e1 w1 hF1 v dn => ?_)
  obtain ⟨a, o, ws, kvs, rfl, ha, l, hF2⟩ := lkM_sim w1 dn hF1
  exact ⟨a, o, rfl, .inl ⟨ws, ha, Fn.ok w1 hF2 _ (walks_keys ha l)⟩⟩
theorem si_vals {e : Expr} {apos cpos : Pos} {m : LE → M D} (h : SE X C W e m) (hbase : attributeBase e "values" X.env (eval e X.env) = eval e X.env := by rfl) (hline : (apos.endLine == cpos.line) = true := by rfl) :
    SI X C W tg (.Call (.Attribute e "values" apos) [] [] cpos) (iValsD m) := by
  obtain ⟨t, p, s⟩ := h.out
  refine ⟨_, pi_values p hbase hline, fun env σ c R hR hF => ?_⟩
  refine s env σ c _ hR (Fn.bind hF fun x c1 e1 w1 hF1 v dn => ?_)
  obtain ⟨a, o, ws, kvs, rfl, ha, l, hF2⟩ := lkM_sim w1 dn hF1
  exact ⟨a, o, ws, rfl, ha, Fn.ok w1 hF2 _ (walks_vals ha l)⟩
theorem si_items {elts : List Expr} {kk : Nat} {tpos : Pos} {e : Expr} {apos cpos : Pos} {m : LE → M D} (h : SE X C W e m) (hbase : attributeBase e "items" X.env (eval e X.env) = eval e X.env := by rfl) (hline : (apos.endLine == cpos.line) = true := by rfl) :
    SI X C W (.Tuple elts kk tpos) (.Call (.Attribute e "items" apos) [] [] cpos) (iItemsD m) := by
  obtain ⟨t, p, s⟩ := h.out
  refine ⟨_, pi_items p hbase hline, fun env σ c R hR hF => ?_⟩
  refine s env σ c _ hR (Fn.bind hF fun x c1 e1 w1 hF1 v dn => ?_)
  obtain ⟨a, o, ws, kvs, rfl, ha, l, hF2⟩ := lkM_sim w1 dn hF1
  exact ⟨a, o, ws, rfl, ha, Fn.ok w1 hF2 _ (walks_items ha l)⟩
end
end DL
/-! # def f(a, .., *v); C(.., *xs) -/
noncomputable section
namespace DL
open PySem L2
open PyProof.Rows hiding St
/-- how a def with a star parameter binds -/
structure StB (fd : FuncData) (ps : List Str) (pv : Str) : Prop where
  at' : ∀ us rest : List Value, us.length = ps.length → bindArgs fd ⟨us ++ rest, []⟩ = (newTuple rest >>= fun t => pure (ps.zip us ++ [(pv, t)]))
def stD (n : Nat) (ds : List D) : List D := ds.take n ++ [.tup (ds.drop n)]
/-- such a def does what its mirror says -/
structure FnS (P : Program) (w : World) (C : Ct) (mg : Str → Option Value) (base : Heap) (k : Nat) (f : Addr) (n : Nat) (m : List D → M D) : Prop where
  run : ∀ (A : Around) (outer : List Env) (s : Shared) (c : Cf) (us : List Value) (vs : List V) (ds : List D) (Q : VK) (E : XK), RoomG k A → Env0 P w C.K mg base A outer s c.H →
    Vals vs us → WF C c → DenL C c.G c.ρ ds vs → n ≤ ds.length → ds.length ≤ sizeLine → Fn C c (m (stD n ds) c.s) (KD C Q) E →
    codeAny (model P w) A (.call (.ref f) ⟨us, []⟩) (CR (L2.CX P w) outer P w c.H s Q E) s
theorem FnS.mono {P : Program} {w : World} {C : Ct} {mg : Str → Option Value} {base : Heap} {j k n : Nat} {f : Addr} {m : List D → M D} (F : FnS P w C mg base j f n m) (h : j ≤ k) : FnS P w C mg base k f n m :=
  ⟨fun A outer s c us vs ds Q E hr => F.run A outer s c us vs ds Q E (hr.mono h)⟩
section
variable {P : Program} {w : World} {C : Ct} {mg : Str → Option Value} {base : Heap}
theorem fnS_mirror {x qual pv : Str} {st : Stmt} {f : Addr} {fd : FuncData} {N ps : List Str} {k n nn : Nat} {b : SM} {bd : List Stmt} {sco : Scope} (F : Fun C.K x qual st f fd) (Sc : FnScope N (ps ++ [pv]) (defScope st)) (hn : N.length = nn) (hp : ps.length = n) (sb : StB fd ps pv) (hb : defBody st = bd) (hs : defScope st = sco)
    (body : ∀ (cdv : Value) (A : Around) (outer : List Env) (s : Shared) (c : Cf) (E : XK), RoomG k (A.deeper (envOfC qual sco s.heap.objs.size f cdv)) →
      SS (cxOf (L2.CX P w) P w C.K mg base N qual sco f cdv A outer s c.H E) C c (WF0 E) bd b) : FnS P w C mg base (k + 1) f n (mFn nn b) := by
  subst hb hs hn hp
  obtain ⟨oc, od, kV, doc, pm, an, cdv, ct, osl, rfl, lk, hcd⟩ := F.ex
  constructor
  intro A outer s c us vs ds Q E room e0 rv wf dn hl hz hF
  have hv : vs.length = ds.length := dn.length
  obtain ⟨u1, u2, eu, r1, r2⟩ := StX.vals_split (ws := vs.take ps.length) (rest := vs.drop ps.length) (by rw [List.take_append_drop]; exact rv)
  subst eu
  have hnn : c.H s.heap.objs.size = Option.none := e0.hok.fresh (Nat.le_refl _)
  have lt : (vs.take ps.length).length = ps.length := by rw [List.length_take, hv]; exact Nat.min_eq_left hl
  have hl1 : u1.length = ps.length := by rw [← r1.length]; exact lt
  have hrest : (vs.drop ps.length).length ≤ sizeLine := by rw [List.length_drop, hv]; omega
  have hl2 : u2.length ≤ sizeLine := by rw [← r2.length]; exact hrest
  refine StX.run_bnd lk hcd Sc room.room e0 (G := fun xs H2 => ∃ p, c.H p = Option.none ∧ xs = vs.take ps.length ++ [V.ref p] ∧ H2 = upd c.H p (.tup (vs.drop ps.length))) (fun A' Ex Q' h => ?_) fun s2 H2 xs ⟨p, hp, ex, eH⟩ hr' => ?_
  · rw [sb.at' u1 u2 hl1]
    refine wpAny_bind (wpAny_newTuple (wpAny_pure ?_) hl2)
    have new : ObjOk P w (upd c.H s.heap.objs.size (.tup (vs.drop ps.length))) (s.heap.push ({ cls := .type "tuple", data := .seq u2.toArray } : Obj)) s.heap.objs.size (.tup (vs.drop ps.length)) := ⟨hrest, u2, r2, ⟨_, Heap.get?_push_size _ rfl, rfl, _, rfl⟩⟩
    have un := StX.un_laid (fs := frs outer) (s := s) (o := ({ cls := .type "tuple", data := .seq u2.toArray } : Obj)) (u := .tup (vs.drop ps.length)) hnn
    have z := h _ _ (vs.take ps.length ++ [V.ref s.heap.objs.size]) (u1 ++ [Value.ref s.heap.objs.size]) (StX.env0_laid e0 new) un rfl (fun e s' => StX.cxUp outer s c.H _ _ E e s' un (fun b o q => Heap.get?_push_of_some _ q) rfl) (r1.append (.cons rfl .nil))
      (by rw [List.length_append, List.length_append, lt] <;> rfl) ⟨_, hnn, rfl, rfl⟩
    rw [List.zip_append hl1.symm] at z
    exact z
  · subst ex eH
    obtain ⟨w2, e2⟩ := lay_frozen (o := .tup (vs.drop ps.length)) wf hp
    obtain ⟨t, ht, hs⟩ := (body cdv A outer s2 ⟨upd c.H p (.tup (vs.drop ps.length)), upd c.G p (.tup (vs.drop ps.length)), c.ρ, c.s⟩ E (room.deeper _)).out
    refine ⟨t, ht, hs _ _ ⟨upd c.H p (.tup (vs.drop ps.length)), upd c.G p (.tup (vs.drop ps.length)), c.ρ, c.s⟩ _ (rl_start (N := N) w2 (ds := stD ps.length ds) ?_) (fs_end (Fn.mono e2 hF))⟩
    have dn2 := dn.mono e2.g e2.pre
    exact (dn2.take _).append (.one ⟨p, _, rfl, SqT.of upd_same, dn2.drop _⟩)
end
section
variable {X : Cx} {C : Ct} {c0 : Cf} {W : WX}
theorem run_makeS {k kr n : Nat} {f : Addr} {m : List D → M D} {pins : List (Addr × Obj)} {σ : L2.St} {c : Cf} {s : Shared} {Q : VK} {us : List Value} {vz : List V} {dz : List D} (hK : X.K = C.K) (Mo : Mk X.K (C.ca k) f) (F : FnS X.prog X.w C X.mg X.base kr f (n + 1) m) (room : RoomG (kr + 1) X.A) (tk : Takes X W)
    (I : Inv X pins σ c.H s) (rz : Vals vz us) (wf : WF C c) (dn : DenL C c.G c.ρ dz vz) (hl : n ≤ dz.length) (hz : dz.length < sizeLine) (hF : Fn C c (mkM k m (stD n dz) c.s) (KD C Q) (fun a b H => W a b σ H)) :
    wpAny (model X.prog X.w) X.A (call (.ref (C.ca k)) us []) (EP X pins σ Q) X.xe s := by
  have nx : c.H (s.heap.objs.size + 1) = none := I.hok.fresh (Nat.le_succ _)
  have ndx : c.H s.heap.objs.size = none := I.hok.fresh (Nat.le_refl _)
  have ne : s.heap.objs.size ≠ s.heap.objs.size + 1 := Nat.ne_of_lt (Nat.lt_succ_self _)
  have I2 := Inv.made (C := C.ca k) I
  obtain ⟨w1, e1⟩ := lay_frozen (o := .own (s.heap.objs.size + 1)) wf ndx
  have nx1 : (upd c.H s.heap.objs.size (.own (s.heap.objs.size + 1))) (s.heap.objs.size + 1) = none := by rw [upd_ne (Ne.symm ne)]; exact nx
  have n1 := New.of (c0 := c) (c := ⟨upd c.H s.heap.objs.size (.own (s.heap.objs.size + 1)), upd c.G s.heap.objs.size (.own (s.heap.objs.size + 1)), c.ρ, c.s⟩) (p := s.heap.objs.size + 1) (o := .ins (C.ca k) s.heap.objs.size []) (u := .ins k []) e1 w1 nx1 ⟨s.heap.objs.size, [], rfl, upd_same, by simp only [DenF]⟩
  obtain ⟨w2, e2⟩ := lay_new (o := .ins (C.ca k) s.heap.objs.size []) w1 nx1
  obtain ⟨w3, e3, hat⟩ := n1.alloc (e1.trans e2) w2
  generalize hc3 : (⟨upd (upd c.H s.heap.objs.size (.own (s.heap.objs.size + 1))) (s.heap.objs.size + 1) (.ins (C.ca k) s.heap.objs.size []), upd c.G s.heap.objs.size (.own (s.heap.objs.size + 1)), c.ρ ++ [s.heap.objs.size + 1], c.s ++ [some (.ins k [])]⟩ : Cf) = c3 at w3 e3
  have h3 : c3.H = upd (upd c.H s.heap.objs.size (.own (s.heap.objs.size + 1))) (s.heap.objs.size + 1) (.ins (C.ca k) s.heap.objs.size []) := by rw [← hc3]
  have h3s : c3.s = c.s ++ [some (.ins k [])] := by rw [← hc3]
  have h3r : c3.ρ[c.s.length]? = some (s.heap.objs.size + 1) := by rw [← hc3]; exact hat
  have dl : Den C c3.G c3.ρ (.loc c.s.length) (.ref (s.heap.objs.size + 1)) := ⟨_, rfl, h3r⟩
  have hF3 : Fn C c3 (m (stD (n + 1) (.loc c.s.length :: dz)) c3.s) (KD C fun v H => v = .non ∧ Q (.ref (s.heap.objs.size + 1)) H) (fun a b H => W a b σ H) := by
    have hF' : Fn C c (match m (.loc c.s.length :: stD n dz) (c.s ++ [some (.ins k [])]) with
      | .ok .non s' => R.ok (.loc c.s.length) s'
      | .ok _ _ => .stuck
      | .exc x fs s' => .exc x fs s'
      | .stuck => .stuck) (KD C Q) (fun a b H => W a b σ H) := hF
    show Fn C c3 (m (.loc c.s.length :: stD n dz) c3.s) _ _
    rw [h3s]
    cases q : m (.loc c.s.length :: stD n dz) (c.s ++ [some (.ins k [])]) with
    | ok d s' =>
      rw [q] at hF'
      cases d <;> first | exact False.elim hF' | skip
      intro c' hs' x' w' v dv
      cases (show v = V.non from dv)
      exact ⟨rfl, hF' c' hs' (e3.trans x') w' _ ⟨_, rfl, x'.pre.get h3r⟩⟩
    | exc x fs s' =>
      rw [q] at hF'
      exact Fn.mono e3 (Fn.excK hF')
    | stuck => rw [q] at hF'; exact False.elim hF'
  rw [← h3] at I2
  have e0 := I2.env0.make (C.ca k) us []
  rw [hK] at e0
  refine wpAny_call (make_map (f := f) I.kIn Mo.makes Mo.init (beq_iff_eq.mp Mo.fn) (codeAny_mono (F.run _ X.stack _ c3 (Value.ref (s.heap.objs.size + 1) :: us) (V.ref (s.heap.objs.size + 1) :: vz) (.loc c.s.length :: dz) _ (WE W σ) (room.make (C.ca k) us [])
    e0 (.cons rfl rz) w3 (.cons dl (dn.mono e3.g e3.pre)) (Nat.succ_le_succ hl) hz hF3) fun r s' hq => ?_))
  cases r with
  | error e => exact passAt tk σ pins _ _ e s' I2 hq
  | ok fl =>
    cases fl with
    | ret u =>
      obtain ⟨v, H', I3, rv, ev, q3⟩ := I2.after hq
      subst ev
      exact ⟨rv, ⟨V.ref (s.heap.objs.size + 1), H', I3, rfl, q3⟩⟩
    | next => exact False.elim hq
    | brk => exact False.elim hq
    | cont => exact False.elim hq
/-- C(e, .., *xs), what is left over goes into the star parameter -/
def eMakeS (k n : Nat) (m : List D → M D) (ma : LE → M (List D)) : LE → M D := fun env => ma env >>= fun ds => guardM (decide (n ≤ ds.length) && szOk ds.length) >>= fun _ => mkM k m (stD n ds)
def tMakeSG (C : Ct) (W : WX) (k n : Nat) (m : List D → M D) (t : TA) : TE := fun σ H Q => t σ H fun vs H1 => ∃ c ds, c.H = H1 ∧ WF C c ∧ DenL C c.G c.ρ ds vs ∧ n ≤ ds.length ∧ ds.length < sizeLine ∧ Fn C c (mkM k m (stD n ds) c.s) (KD C Q) (fun a b H => W a b σ H)
theorem sim_makeS {k n : Nat} {m : List D → M D} {t : TA} {ma : LE → M (List D)} (sa : SimA C W t ma) : SimE C W (tMakeSG C W k n m t) (eMakeS k n m ma) := fun env σ c Q hR hF => by
  refine sa env σ c _ hR (Fn.bind hF fun ds c1 e1 w1 hF1 vs dn => ?_)
  obtain ⟨hz, hF2⟩ := Fn.guard hF1
  rw [Bool.and_eq_true] at hz
  exact ⟨c1, ds, rfl, w1, dn, of_decide_eq_true hz.1, szOk_lt hz.2, hF2⟩
theorem se_makeS1 {k n kr : Nat} {f : Addr} {m : List D → M D} {x : Str} {p sp pos : Pos} {e : Expr} {mo : LE → M D} (Mo : Mk X.K (C.ca k) f) (F : FnS X.prog X.w C X.mg X.base kr f (n + 1) m) (room : RoomG (kr + 1) X.A) (tk : Takes X W) (hm : X.mg x = some (.ref (C.ca k)))
    (h : SE X C W e mo) (hK : X.K = C.K := by rfl) (hg : Gl X x := by rfl) (hdb : (x == ("__debug__" : Str)) = false := by decide) (hst : starEach [.Starred e sp] X.env = [(true, eval e X.env)] := by rfl) :
    SE X C W (.Call (.Name x p) [.Starred e sp] [] pos) (eMakeS k n m (aStar mo aNil)) := by
  obtain ⟨t, pe, se⟩ := h.out
  obtain ⟨ta, pa, sa⟩ := (sa_star (p := sp) h sa_nil hK hst).out
  refine ⟨fun σ H Q => t σ H fun y H1 => ∃ a xs, y = V.ref a ∧ (SqT X.K H1 a xs ∨ SqL X.K H1 a xs) ∧ ∃ c ds, c.H = H1 ∧ WF C c ∧ DenL C c.G c.ρ ds xs ∧ n ≤ ds.length ∧ ds.length < sizeLine ∧ Fn C c (mkM k m (stD n ds) c.s) (KD C Q) (fun a b H => W a b σ H), ⟨fun pins s σ H Q I h => ?_⟩, fun env σ c Q hR hF => ?_⟩
  · refine wpAny_Call_Name_kw (ld_glob I hg hm ?_ hdb)
    refine PySem.W.callWith_S (h₀ := X.base) I.ok.mod.kin Mo.kp (thn (pe.run pins s σ H _ I h) fun v s1 z => ?_) hst
    obtain ⟨y, H1, I1, ry, a, xs, ey, hxs, c, ds, rfl, wf, dn, hl, hz, hF⟩ := z
    subst ey
    obtain rfl : v = Value.ref a := ry
    exact StX.star_any I1 hxs fun us s2 I2 rv => ⟨I2.kIn, run_makeS hK Mo F room tk I2 rv wf dn hl hz hF⟩
  · have hF' : Fn C c (((mo env >>= fun d => rdS d >>= fun xs => (pure xs : M (List D))) >>= fun ds => guardM (decide (n ≤ ds.length) && szOk ds.length) >>= fun _ => mkM k m (stD n ds)) c.s) (KD C Q) (fun a b H => W a b σ H) := by
      have : (aStar mo aNil env) = (mo env >>= fun d => rdS d >>= fun xs => (pure xs : M (List D))) := by
        unfold aStar
        congr 1
        funext d
        congr 1
        funext xs
        show (pure (xs ++ []) : M (List D)) = pure xs
        rw [List.append_nil]
      rw [← this]
      exact hF
    rw [bind_assoc'] at hF'
    refine se env σ c _ hR (Fn.bind hF' fun d c1 e1 w1 hF1 v dn => ?_)
    rw [bind_assoc'] at hF1
    obtain ⟨q, vs, ds, rfl, hq, l, hF2⟩ := rdS_sim w1 dn hF1
    rw [bind_pure'] at hF2
    obtain ⟨hz, hF3⟩ := Fn.guard hF2
    rw [Bool.and_eq_true] at hz
    exact ⟨q, vs, rfl, by rw [hK]; exact hq.symm, c1, ds, rfl, w1, l, of_decide_eq_true hz.1, szOk_lt hz.2, hF3⟩
theorem se_makeS2 {k n kr : Nat} {f : Addr} {m : List D → M D} {x : Str} {p pos : Pos} {e : Expr} {es : List Expr} {ma : LE → M (List D)} (Mo : Mk X.K (C.ca k) f) (F : FnS X.prog X.w C X.mg X.base kr f (n + 1) m) (room : RoomG (kr + 1) X.A) (tk : Takes X W) (hm : X.mg x = some (.ref (C.ca k)))
    (ha : SA X C W (e :: es) ma) (hK : X.K = C.K := by rfl) (hg : Gl X x := by rfl) (hdb : (x == ("__debug__" : Str)) = false := by decide) (he : starEach (e :: es) X.env = (false, eval e X.env) :: starEach es X.env := by rfl)
    (hst : (backTo pos (starEach es X.env)).any (·.1) = true := by rfl) : SE X C W (.Call (.Name x p) (e :: es) [] pos) (eMakeS k n m ma) := by
  obtain ⟨t, pa, sa⟩ := ha.out
  refine ⟨tMakeSG C W k n m t, ⟨fun pins s σ H Q I h => ?_⟩, sim_makeS sa⟩
  refine wpAny_Call_Name_kw (ld_glob I hg hm ?_ hdb)
  refine PySem.W.callWith_S2 (h₀ := X.base) I.ok.mod.kin Mo.kp (thn (pa.run pos pins s σ H _ I h) fun us s1 z => ?_) he hst
  obtain ⟨vs, H1, I1, rv, c, ds, rfl, wf, dn, hl, hz, hF⟩ := z
  exact ⟨I1.kIn, run_makeS hK Mo F room tk I1 rv wf dn hl hz hF⟩
end
end DL
end
/-! # Lists joined to a new one; lists unpacked; isinstance of two types -/
noncomputable section
namespace DL
open PySem L2
open PyProof.Rows hiding St
section
variable {X : Cx} {C : Ct} {c0 : Cf} {W : WX}
/-- a list's items: a value, or a cell -/
def lstH : D → M (List D)
  | .lst ds => pure ds
  | .loc n => fun s => match s[n]? with
    | some (some (.lst ds)) => .ok ds s
    | _ => .stuck
  | _ => mStuck
theorem lstH_sim {c : Cf} {x : D} {v : V} {β : Type} {f : List D → M β} {K : β → Cf → Prop} {E : XK} (w : WF C c) (dn : Den C c.G c.ρ x v) (h : Fn C c ((lstH x >>= f) c.s) K E) :
    ∃ p vs ds, v = .ref p ∧ c.H p = some (.lst vs) ∧ DenL C c.G c.ρ ds vs ∧ Fn C c (f ds c.s) K E := by
  cases x <;> first | exact False.elim h | skip
  · obtain ⟨a, vs, rfl, ha, l⟩ := dn
    exact ⟨a, vs, _, rfl, w.ext _ _ ha, l, h⟩
  · rename_i n
    obtain ⟨a, rfl, ha⟩ := dn
    have h' : Fn C c (R.bind (match c.s[n]? with | some (some (.lst ds)) => R.ok ds c.s | _ => R.stuck) f) K E := h
    cases q : c.s[n]? with
    | none => rw [q] at h'; exact False.elim h'
    | some o =>
      cases o with
      | none => rw [q] at h'; exact False.elim h'
      | some o =>
        cases o with
        | lst ds =>
          rw [q] at h'
          obtain ⟨b, ho, r1, r2, r3, vs, rfl, l⟩ := w.cel n _ q
          rw [ha] at r1
          cases r1
          exact ⟨a, vs, ds, rfl, r3, l, h'⟩
        | dct _ => rw [q] at h'; exact False.elim h'
        | ins _ _ => rw [q] at h'; exact False.elim h'
        | lk _ => rw [q] at h'; exact False.elim h'
/-- a + b, a new list -/
def nCat (ma mb : LE → M D) : LE → M O := fun env => ma env >>= fun x => mb env >>= fun y => lstH x >>= fun xs => lstH y >>= fun ys => guardM (szOk (xs.length + ys.length)) >>= fun _ => pure (.lst (xs ++ ys))
theorem sn_cat {a b : Expr} {ma mb : LE → M D} {pos : Pos} (ha : SE X C W a ma) (hb : SE X C W b mb) : SN X C W (.BinOp a .Add b pos) (nCat ma mb) := by
  obtain ⟨ta, pa, sa⟩ := ha.out
  obtain ⟨tb, pb, sb⟩ := hb.out
  refine ⟨_, pe_op op_cat pa pb, fun env σ c Q hR hF => ?_⟩
  refine sa env σ c _ hR (Fn.bind hF fun x c1 e1 w1 hF1 v d1 => ?_)
  refine sb env σ c1 _ (hR.ext e1 w1) (Fn.bind hF1 fun y c2 e2 w2 hF2 u d2 => ?_)
  obtain ⟨p, vs, xs, rfl, hp, l1, h3⟩ := lstH_sim w2 (d1.mono e2.g e2.pre) hF2
  obtain ⟨q, us, ys, rfl, hq, l2, h4⟩ := lstH_sim w2 d2 h3
  obtain ⟨hz, h5⟩ := Fn.guard h4
  refine ⟨p, q, vs, us, rfl, rfl, hp, hq, by rw [l1.length, l2.length]; exact szOk_line hz, fun r hr => ?_⟩
  obtain ⟨w3, e3⟩ := lay_new (o := .lst (vs ++ us)) w2 hr
  exact Fn.ok w3 (Fn.mono e3 h5) r (.of (e1.trans e2) w2 hr ⟨_, rfl, l1.append l2⟩)
/-- a, b, .. = a list -/
def sAsgL (n : Nat) (m : LE → M D) (g : GMs) : SM := sE m fun d => sE (fun _ => rdL d) fun ds env s => if ds.length = n then (g ds env).map fun env' => (.nx env', s) else none
theorem s1_asgL {es : List Expr} {k n : Nat} {tp : Pos} {e : Expr} {m : LE → M D} {g : GMs} {is : List Nat} {pos : Pos} (h : SE X C W e m) (gs : SGs X C es g is) (hc : X.calm = true := by rfl) (hK : X.K = C.K := by rfl) (hn : (assignEach es X.env).length = n := by rfl) (hst : (assignEach es X.env).findIdx? (·.1) = none := by rfl)
    (hs : swapsWithSole [.Tuple es k tp] e pos.line X.env = pure false := by rfl) (hw : swappedStores [.Tuple es k tp] e X.env = pure none := by rfl)
    (h1 : (assignEach [.Tuple es k tp] X.env).map (·.2) = [assign (.Tuple es k tp) X.env] := by rfl) : SS1 X C c0 W (.Assign [.Tuple es k tp] e pos) (sAsgL n m g) := by
  obtain ⟨t, p, s⟩ := h.out
  obtain ⟨u, q, sg⟩ := gs.out
  refine ⟨_, ps_asg p (pg_lst hc q hn hst) hs hw h1, fun env σ c E hR hF => s env σ c _ hR.rl (hF.fn hR fun d c' x w hR' hF' v dn => ?_)⟩
  have hF2 : Fn C c' ((rdL d >>= fun ds => (pure ds : M (List D))) c'.s) (fun ds c2 => c2 = c' → FS C c0 c' W E (if ds.length = n then (g ds env).map fun env' => (.nx env', c'.s) else none)) (fun a b H => W a b σ H) := by
    have hb : (rdL d >>= fun ds => (pure ds : M (List D))) = rdL d := by
      funext s
      rw [bind_def]
      cases rdL d s <;> rfl
    rw [hb]
    exact hF'.fn hR' fun ds c2 x2 w2 hR2 hF2 e => by subst e; exact hF2
  obtain ⟨a, vs, ds, rfl, hq, l, hF3⟩ := rdL_sim w dn hF2
  have hF4 := Fn.ok w hF3 rfl
  by_cases hl : ds.length = n
  · rw [if_pos hl] at hF4
    cases eg : g ds env with
    | none => rw [eg] at hF4; exact False.elim hF4
    | some env' =>
      rw [eg] at hF4
      refine ⟨a, vs, rfl, by rw [hK]; exact hq, l.length.trans hl, sg env σ c' ds vs env' _ hR'.rl l eg fun σ' R' S' => hF4 σ' c' rfl (S'.rls hR' R') (Since.refl _)⟩
  · rw [if_neg hl] at hF4
    exact False.elim hF4
/-- isinstance(e, (T, U)) -/
def oIsTT (b1 b2 : Ty0) (d : D) : M D := tyM d >>= fun t => match t with
  | .bi a => pure (.bl (a.le b1 || a.le b2))
  | .own _ => mStuck
def eIsTT (b1 b2 : Ty0) (m : LE → M D) : LE → M D := fun env => m env >>= oIsTT b1 b2
theorem kitAny2 {K : PySem.W.Frag} (a b1 b2 : Ty0) : PySem.W.kitAny K (.type a.name) [.type b1.name, .type b2.name] = some (a.le b1 || a.le b2) := by
  have h1 := kit_ty (K := K) (a.kit b1)
  have h2 := kit_ty (K := K) (a.kit b2)
  cases e1 : a.le b1 <;> cases e2 : a.le b2 <;> rw [e1] at h1 <;> rw [e2] at h2
  · exact kitAny_cons h1 (fun _ => kitAny_cons h2 (fun _ => kitAny_nil) (fun z => by cases z)) (fun z => by cases z)
  · exact kitAny_cons h1 (fun _ => kitAny_cons h2 (fun z => by cases z) (fun _ => rfl)) (fun z => by cases z)
  · exact kitAny_cons h1 (fun z => by cases z) (fun _ => rfl)
  · exact kitAny_cons h1 (fun z => by cases z) (fun _ => rfl)
theorem se_isTT {x1 x2 : Str} {e : Expr} {m : LE → M D} {p p1 p2 tp pos : Pos} {kk : Nat} (b1 b2 : Ty0) (hm : X.mg "isinstance" = none) (hm1 : X.mg x1 = none) (hm2 : X.mg x2 = none) (h : SE X C W e m) (hK : X.K = C.K := by rfl)
    (hv1 : bootBuiltins x1 = some (.type b1.name) := by rfl) (hv2 : bootBuiltins x2 = some (.type b2.name) := by rfl) (hg : Gl X "isinstance" := by rfl) (hg1 : Gl X x1 := by rfl) (hg2 : Gl X x2 := by rfl)
    (hn1 : x1 ≠ "__name__" := by decide) (hd1 : (x1 == ("__debug__" : Str)) = false := by decide) (hn2 : x2 ≠ "__name__" := by decide) (hd2 : (x2 == ("__debug__" : Str)) = false := by decide)
    (he : starEach (e :: [.Tuple [.Name x1 p1, .Name x2 p2] kk tp]) X.env = (false, eval e X.env) :: starEach [.Tuple [.Name x1 p1, .Name x2 p2] kk tp] X.env := by rfl) (he2 : starEach (.Tuple [.Name x1 p1, .Name x2 p2] kk tp :: []) X.env = (false, eval (.Tuple [.Name x1 p1, .Name x2 p2] kk tp) X.env) :: starEach [] X.env := by rfl)
    (he3 : starEach (.Name x1 p1 :: [.Name x2 p2]) X.env = (false, eval (.Name x1 p1) X.env) :: starEach [.Name x2 p2] X.env := by rfl) (he4 : starEach (.Name x2 p2 :: []) X.env = (false, eval (.Name x2 p2) X.env) :: starEach [] X.env := by rfl)
    (hpl : (backTo pos (starEach [.Tuple [.Name x1 p1, .Name x2 p2] kk tp] X.env)).any (·.1) = false := by rfl) : SE X C W (.Call (.Name "isinstance" p) [e, .Tuple [.Name x1 p1, .Name x2 p2] kk tp] [] pos) (eIsTT b1 b2 m) := by
  obtain ⟨t, pe, se⟩ := h.out
  refine ⟨_, pe_callB call_isiT hg hm (by rfl) (pa_cons pe (pa_cons (pe_tup (pa_cons (pe_bltn (v := .ty b1.name) hg1 hm1 hv1 rfl hn1 hd1) (pa_cons (pe_bltn (v := .ty b2.name) hg2 hm2 hv2 rfl hn2 hd2) pa_nil he4) he3)) pa_nil he2) he) (by decide) (by decide) he hpl, fun env σ c Q hR hF => ?_⟩
  refine se env σ c _ hR (Fn.bind hF fun d c1 e1 w1 hF1 v dn => ?_)
  refine ⟨by show 2 ≤ sizeLine; decide, fun q hq => ?_⟩
  obtain ⟨w2, e2⟩ := lay_frozen (o := .tup [.ty b1.name, .ty b2.name]) w1 hq
  have hF2 : Fn C ⟨upd c1.H q (.tup [.ty b1.name, .ty b2.name]), upd c1.G q (.tup [.ty b1.name, .ty b2.name]), c1.ρ, c1.s⟩ (oIsTT b1 b2 d c1.s) _ _ := Fn.mono e2 hF1
  rcases tyM_sim w2 (dn.mono e2.g e2.pre) hF2 with ⟨t, ty, h2⟩ | ⟨k, a, dx, gs, rfl, ha, h2⟩
  · exact ⟨v, q, _, _, _, _, rfl, upd_same, .cons (.ty _) (.cons (.ty _) .nil), by rw [hK]; exact ty, kitAny2 t b1 b2, Fn.ok w2 h2 _ rfl⟩
  · exact False.elim h2
end
end DL
end
/-! # Keywords of defs: all given, or the last ones filled up; K.m(e, .., k = v, ..) -/
noncomputable section
namespace DL
open PySem L2
open PyProof.Rows hiding St
theorem KBD.all {C : Ct} {fd : FuncData} {ps ks : List Str} {n : Nat} (hl : n + ks.length = ps.length) (h : ∀ us ws : List Value, us.length = n → ws.length = ks.length → bindArgs fd ⟨us, ks.zip ws⟩ = pure (ps.zip (us ++ ws))) : KBD C fd ps n ks (fun ds zs => ds ++ zs) :=
  ⟨fun us ws => us ++ ws, fun vs zs => vs ++ zs, ⟨fun s us ws _ l1 l2 => .of_eq (h us ws l1 l2), fun r1 r2 => r1.append r2⟩, fun G ρ ds zs vs ws d1 d2 l1 l2 => ⟨d1.append d2, by rw [List.length_append]; omega⟩⟩
theorem KBD.suffix {C : Ct} {y qual : Str} {params : Arguments} {body : List Stmt} {scope : Scope} {kws : List (Str × V)} {f : Addr} {fd : FuncData} {ps : List Str} (F : FunD C.K y qual params body scope [] kws f fd) (n : Nat) (ks : List Str) (ms : List (Str × V)) (dm : List D)
    (hk : kws ≠ []) (hms : ∀ q ∈ ms, q ∈ kws) (hdm : ∀ G ρ, DenL C G ρ dm (ms.map (·.2))) (hl : n + (ks.length + ms.length) = ps.length)
    (h : ∀ (Da : Addr) (doc pm : Value) (an : Option Addr) (cdv ct : Value) (us mv ws : List Value), us.length = n → mv.length = ms.length → ws.length = ks.length →
      KwChain Da ((ms.map (·.1)).zip mv) (bindArgs (PySem.W.fnOf y qual params body scope .none (.ref Da) doc pm an cdv ct) ⟨us, ks.zip ws⟩) (ps.zip (us ++ (ws ++ mv)))) : KBD C fd ps n ks (fun ds zs => ds ++ (zs ++ dm)) :=
  KBD.dfl (K := C.K) F n ks ms (fun us mv ws => us ++ (ws ++ mv)) dm hk hms (fun r1 r2 r3 => r1.append (r3.append r2)) h fun G ρ ds zs vs ws d1 d2 l1 l2 => ⟨d1.append (d2.append (hdm G ρ)), by
    have := (hdm G ρ).length
    rw [List.length_map] at this
    rw [List.length_append, List.length_append]
    omega⟩
section
variable {X : Cx} {C : Ct} {c0 : Cf} {W : WX}
theorem se_staticK {n nk kr : Nat} {f a : Addr} {fd : FuncData} {ps ks : List Str} {m : List D → M D} {x nm : Str} {e : Expr} {es : List Expr} {kws : List Keyword} {ma mk : LE → M (List D)} {gD : List D → List D → List D} {xp apos pos : Pos} {pl : Sem Bool} (k : SMet X.K a nm f) (F : FnG X.prog X.w C X.mg X.base kr f fd ps m) (room : RoomG kr X.A) (tk : Takes X W)
    (hm : X.mg x = some (.ref a)) (kb : KBD C fd ps n ks gD) (hn : ks.length = nk) (ha : SA X C W (e :: es) ma) (hkw : SK X C W kws mk) (hK : X.K = C.K := by rfl) (hg : Gl X x := by rfl) (hdb : (x == ("__debug__" : Str)) = false := by decide)
    (hall : (backToKw pos (keywordEach kws X.env)).all (·.1.isSome) = true := by rfl) (hks : (backToKw pos (keywordEach kws X.env)).filterMap (·.1) = ks := by rfl)
    (hst : starEach (e :: es) X.env = (false, eval e X.env) :: starEach es X.env := by rfl)
    (hpl : ((backTo pos (starEach (e :: es) X.env)).any (·.1) || (backToKw pos (keywordEach kws X.env)).any (·.1.isNone)) = false := by rfl)
    (ht : eval (.Call (.Attribute (.Name x xp) nm apos) (e :: es) kws pos) X.env = (do
      let ov ← eval (.Name x xp) X.env
      standAt apos.atName
      let (f, first) ← holding [ov] (getMethod ov nm pl)
      callWith pos f first (backTo pos (starEach (e :: es) X.env)) (backToKw pos (keywordEach kws X.env))) := by rfl) :
    SE X C W (.Call (.Attribute (.Name x xp) nm apos) (e :: es) kws pos) (eCallK n nk m gD ma mk) := by
  subst hn
  obtain ⟨t, pa, sa⟩ := ha.out
  obtain ⟨u, pk, sk⟩ := hkw.out
  obtain ⟨g, gV, kn, kd⟩ := kb.ex
  refine ⟨tCallKG C W n ks.length m gD t u, ⟨fun pins s σ H Q I h => ?_⟩, fun env σ c Q hR hF => ?_⟩
  · refine PySem.W.methodCall_KW (pl := pl) (thn ((pe_glob (v := .ref a) (pos := xp) hg hm rfl hdb).run pins s σ H (fun v H1 => v = .ref a ∧ tCallKG C W n ks.length m gD t u σ H1 Q) I ⟨rfl, h⟩) fun u' s1 z => ?_) ht
    obtain ⟨y, H1, I1, ry, rfl, q⟩ := z
    obtain rfl : u' = Value.ref a := ry
    refine getsm_ok I1 k fun s' I' => ?_
    refine PySem.W.callWith_KW (first := []) (h₀ := X.base) I'.ok.mod.kin k.kp hall (thn (pa.run pos pins s' σ H1 _ I' q) fun us s2 z => ?_) hpl hst
    obtain ⟨vs, H2, I2, r, q⟩ := z
    refine thn (pk.run pos pins s2 σ H2 _ I2 q) fun ws s3 z => ?_
    obtain ⟨zs, H3, I3, rz, c, ds, zd, rfl, wf, d1, d2, l1, l2, hF⟩ := z
    refine ⟨I3.kIn, ?_⟩
    rw [hks]
    obtain ⟨d3, l3⟩ := kd _ _ _ _ _ _ d1 d2 l1 l2
    have e1 : us.length = n := by rw [← r.length, d1.length, l1]
    have e2 : ws.length = ks.length := by rw [← rz.length, d2.length, l2]
    exact fn_run (args := ⟨us, ks.zip ws⟩) (us := g us ws) hK F room tk I3 (kn.to s3 us ws (by rw [← hK]; exact I3.kIn) e1 e2) (kn.rel r rz) wf d3 l3 hF
  · refine sa env σ c _ hR (Fn.bind hF fun ds c1 e1 w1 hF1 vs dn => ?_)
    refine sk env σ c1 _ (hR.ext e1 w1) (Fn.bind hF1 fun zs c2 e2 w2 hF2 ws dz => ?_)
    obtain ⟨hz, hF3⟩ := Fn.guard hF2
    rw [Bool.and_eq_true] at hz
    exact ⟨c2, ds, zs, rfl, w2, dn.mono e2.g e2.pre, dz, of_decide_eq_true hz.1, of_decide_eq_true hz.2, hF3⟩
end
end DL
end
/-! # x[i] = e, x a list of a slot's own -/
noncomputable section
namespace DL
open PySem L2
open PyProof.Rows hiding St
section
variable {X : Cx} {C : Ct} {c0 : Cf} {W : WX}
def sSetIxO (i : Nat) (mi me : LE → M D) : SM := sE me fun d => fun env s => match env[i]? with
  | some (some (.own (.lst ds))) => sE mi (fun k env s => match k with
    | .int k => (ixN ds.length k).map fun j => (.nx (env.set i (some (.own (.lst (ds.set j d))))), s)
    | _ => none) env s
  | _ => none
theorem s1_setixO (i : Nat) {x : Str} {k e : Expr} {mk me : LE → M D} {px pt pos : Pos} (hk : SE X C W k mk) (he : SE X C W e me) (hN : X.N[i]? = some x := by rfl) (hv : Vis X.env.scope x := by first | exact Or.inl rfl | exact Or.inr (Or.inl rfl) | exact Or.inr (Or.inr rfl))
    (ha : ∀ v, assign (.Subscript (.Name x px) k pt) X.env v = (do
      let ov ← holding [v] (eval (.Name x px) X.env)
      let iv ← holding [v, ov] (eval k X.env)
      standAt pt
      holding [v, ov, iv] (setItem ov iv v)
      release [v, ov, iv] []) := by intro _; rfl)
    (hs : swapsWithSole [.Subscript (.Name x px) k pt] e pos.line X.env = pure false := by rfl) (hw : swappedStores [.Subscript (.Name x px) k pt] e X.env = pure none := by rfl)
    (h1 : (assignEach [.Subscript (.Name x px) k pt] X.env).map (·.2) = [assign (.Subscript (.Name x px) k pt) X.env] := by rfl)
    (hd : (x == ("__debug__" : Str)) = false := by decide) (hcd : (x == ("__classdict__" : Str)) = false := by decide) : SS1 X C c0 W (.Assign [.Subscript (.Name x px) k pt] e pos) (sSetIxO i mk me) := by
  obtain ⟨tk, pk, sk⟩ := hk.out
  obtain ⟨te, pe, se⟩ := he.out
  refine ⟨_, ps_asg pe (pg_sub (pe_var hN hv hd hcd) pk set_list ha) hs hw h1, fun env σ c E hR hF => ?_⟩
  refine se env σ c _ hR.rl (hF.fn hR fun d c1 x1 w1 hR1 hF1 v dn => ?_)
  obtain ⟨ds, hoe, hF2⟩ : ∃ ds, env[i]? = some (some (.own (.lst ds))) ∧ FS C c0 c1 W E (sE mk (fun k env s => match k with
    | .int k => (ixN ds.length k).map fun j => (.nx (env.set i (some (.own (.lst (ds.set j d))))), s)
    | _ => none) env c1.s) := by
    cases q : env[i]? with
    | none => rw [q] at hF1; exact False.elim hF1
    | some o =>
      cases o with
      | none => rw [q] at hF1; exact False.elim hF1
      | some sd =>
        cases sd with
        | val d => rw [q] at hF1; exact False.elim hF1
        | own u =>
          cases u with
          | lst ds => rw [q] at hF1; exact ⟨ds, rfl, hF1⟩
          | dct ds => rw [q] at hF1; exact False.elim hF1
          | ins a b => rw [q] at hF1; exact False.elim hF1
          | lk a => rw [q] at hF1; exact False.elim hF1
  obtain ⟨a, ho, b1, b2, b3, b4, ws, rfl, l⟩ := hR1.rl.own i _ hoe
  refine ⟨_, b1, sk env σ c1 _ hR1.rl (hF2.fn hR1 fun kd c' x' w' hR' hF' kv dk => ?_)⟩
  obtain ⟨a', ho', b1', b2', b3', b4', ws', rfl, l'⟩ := hR'.rl.own i _ hoe
  rw [b1] at b1'
  cases b1'
  cases kd <;> first | exact False.elim hF' | skip
  rename_i k
  cases (show kv = _ from dk)
  cases ej : ixN ds.length k with
  | none => simp only [ej] at hF'; exact False.elim hF'
  | some j =>
    simp only [ej] at hF'
    exact ⟨a, ws', k, j, rfl, rfl, b4', by rw [l'.length]; exact ej, hF' σ ⟨_, _, _, _⟩ rfl (hR'.write hoe b1 ⟨_, rfl, DenL.set (dn.mono x'.g x'.pre) j l'⟩) ⟨Gr.refl _, Pre.refl _, fun x z u e => by have ne : x ≠ a := (fun y => by subst y; rw [b4'] at e; cases e); show upd _ a _ x = _; rw [upd_ne ne]; exact e⟩⟩
end
end DL
end
/-! # != of two lists of a text and an instance, equal ones; e(..), e an instance -/
noncomputable section
namespace DLQ
open PySem PySem.SeqAt
open AutoSeq1 (wpAny_loadPart')
open MeetsSeq MeetsSeq2 MeetsSeq3 SeqRoads2
section
variable {prog : Program} {w : World} {A : Around} {R : Result → Shared → Prop}
theorem ne_turns (l b : Addr) (N : Nat) (J : Nat → Shared → Prop) (read : GQ.ListI prog w A (fun e s' => R (.error e) s') l b N J) (last : ∀ s, J N s → R (.ok (.ret (.bool false))) s) (k : Nat) :
    ∀ i : Nat, N - i = k → i ≤ N → ∀ s, J i s → wpAny (model prog w) A.in1 (Builtin.«list.__eq__.loop» ⟨[.ref l, .ref b, rawInt i, rawInt 3], []⟩) (GQ.FinOf prog w A R) (fun e s' => R (.error e) s') s := by
  induction k with
  | zero =>
    intro i k0 le s j
    obtain ⟨us, vs, nu, nv, gu, gv, su, sv, _⟩ := read _ _ j
    have ei : i = N := by omega
    have done : R (.ok (.ret (.bool false))) s := last s (ei ▸ j)
    obtain ⟨hp, g, d, tk, os⟩ := s
    wp_walk using wpAny_loadPart' gu, wpAny_loadPart' gv
    have u1 : us[((i : Nat) : Int).toNat]? = none := by simp; omega
    have v1 : vs[((i : Nat) : Int).toNat]? = none := by simp; omega
    rw [u1, v1]
    wp_walk using wpAny_loadPart' gu, wpAny_loadPart' gv
    show R (.ok (.ret (.bool (us.size != vs.size)))) _
    rw [su, sv]
    simpa using done
  | succ k ih =>
    intro i k0 le s j
    obtain ⟨us, vs, nu, nv, gu, gv, su, sv, turn⟩ := read _ _ j
    have iu : i < us.size := by omega
    have iv : i < vs.size := by omega
    have one := turn iu iv
    obtain ⟨hp, g, d, tk, os⟩ := s
    wp_walk using wpAny_loadPart' gu, wpAny_loadPart' gv
    have u1 : us[((i : Nat) : Int).toNat]? = some us[i] := by simp [iu]
    have v1 : vs[((i : Nat) : Int).toNat]? = some vs[i] := by simp [iv]
    have up : ((i : Int) + 1) = ((i + 1 : Nat) : Int) := by omega
    rw [u1, v1]
    refine wpAny_bind (wpAny_mono one (fun r s2 q => ?_) fun _ _ x => x)
    obtain ⟨rfl, j2⟩ := q
    have again := ih (i + 1) (by omega) (by omega) s2 j2
    obtain ⟨hp2, g2, d2, tk2, os2⟩ := s2
    wp_walk
    rw [up]
    exact ⟨plainId_quiet plain_eq_loop _, codeAny_builtin entry_eq_loop (by rw [Around.under_plainId plain_eq_loop _]; exact again)⟩
theorem ne_whole (l b : Addr) (N : Nat) (J : Nat → Shared → Prop) (read : GQ.ListI prog w A (fun e s' => R (.error e) s') l b N J) (last : ∀ s, J N s → R (.ok (.ret (.bool false))) s) {s : Shared} (j : J 0 s) :
    wpAny (model prog w) A.in1 (Builtin.«list.__ne__» ⟨[.ref l, .ref b], []⟩) (GQ.FinOf prog w A R) (fun e s' => R (.error e) s') s := by
  obtain ⟨us, vs, nu, nv, gu, gv, su, sv, _⟩ := read _ _ j
  have again := ne_turns (A := A) (R := R) l b N J read last _ 0 rfl (Nat.zero_le _) s j
  obtain ⟨hp, g, d, tk, os⟩ := s
  have sub := AutoSeq1.sub_list_list
  have same : ¬ (us.size != vs.size) = true := by simp [su, sv]
  wp_walk using wpAny_loadPart' gu, wpAny_loadPart' gv
  exact ⟨plainId_quiet plain_eq_loop _, codeAny_builtin entry_eq_loop (by rw [Around.under_plainId plain_eq_loop _]; exact again)⟩
end
theorem ne_lists {prog : Program} {w : World} {A : Around} {E : Value → Shared → Prop} {s : Shared} {l b : Addr} {N : Nat} {Q : Value → Shared → Prop} (hu : A.units < cLine) (J : Nat → Shared → Prop) (read : GQ.ListI prog w A E l b N J)
    (last : ∀ s, J N s → Q (.bool false) s) (j : J 0 s) : wpAny (model prog w) A (richCompare .NotEq (.ref l) (.ref b)) Q E s := by
  obtain ⟨us, vs, nu, nv, gu, gv, _, _, _⟩ := read _ _ j
  refine wpAny_richCompare_same_room (op := .NotEq) ⟨_, gu, rfl⟩ ⟨_, gv, rfl⟩ F.slot_list_ne (GQ.call_here F.slot_list_ne ⟨_, gu, rfl⟩ F.entry_list_ne (F.args_list_ne_2 _ _) ?_) hu
  exact ne_whole (R := wants (fun v s' => v ≠ .notImplemented ∧ Q v s') E) l b N J read (fun s' q => ⟨(fun x => nomatch x), last s' q⟩) j
end DLQ
namespace DL
open PySem L2
open PyProof.Rows hiding St
section
variable {X : Cx} {C : Ct} {c0 : Cf} {W : WX}
def rNeTI (C : Ct) (k : Nat) (m : List D → M D) : R2 := fun x y H Q => ∃ c l b p a d dx dy fs gs e f, c.H = H ∧ WF C c ∧ x = .ref l ∧ y = .ref b ∧ H l = some (.lst [.str p, .ref a]) ∧ H b = some (.lst [.str p, .ref d]) ∧ a ≠ d ∧
  H a = some (.ins (C.ca k) dx fs) ∧ H d = some (.ins (C.ca k) dy gs) ∧ Den C c.G c.ρ e (.ref a) ∧ Den C c.G c.ρ f (.ref d) ∧
  Fn C c (m [e, f] c.s) (KD C fun v H' => v = .bl true ∧ H' l = some (.lst [.str p, .ref a]) ∧ H' b = some (.lst [.str p, .ref d]) ∧ Q (.bl false) H') (fun _ _ _ => False)
theorem op_neTI {k kr : Nat} {m : List D → M D} (hK : X.K = C.K) (room : RoomG (kr + 1) X.A) (T : EqT X C kr k m) : OpR X (compareOp .NotEq) (rNeTI C k m) := by
  intro pins s σ H x y v u Q I rx ry hq
  obtain ⟨c, l, b, p, a, d, dx, dy, fs, gs, e, f, rfl, wf, rfl, rfl, hl, hb, ne, ha, hd, da, dd, hF⟩ := hq
  obtain rfl : v = Value.ref l := rx
  obtain rfl : u = Value.ref b := ry
  obtain ⟨g, fd, ps, hs, hf, F, bd, hn⟩ := T.ex
  show wpAny (model X.prog X.w) X.A (richCompare .NotEq (.ref l) (.ref b)) (EP X pins σ Q) X.xe s
  let J : Nat → Shared → Prop := fun i s' => (i ≤ 1 ∧ Inv X pins σ c.H s') ∨ (i = 2 ∧ ∃ H', Inv X pins σ H' s' ∧ H' l = some (.lst [.str p, .ref a]) ∧ H' b = some (.lst [.str p, .ref d]) ∧ Q (.bl false) H')
  refine DLQ.ne_lists (N := 2) room.room.units0 J (fun i s' j => ?_) (fun s' j => ?_) (.inl ⟨by omega, I⟩)
  · have read : ∀ H', Inv X pins σ H' s' → H' l = some (.lst [.str p, .ref a]) → H' b = some (.lst [.str p, .ref d]) → ∃ (t t' : Tok) (n n' : Nat), s'.heap.get? l = some { cls := .type "list", data := .seq #[.str p t, .ref a] n } ∧ s'.heap.get? b = some { cls := .type "list", data := .seq #[.str p t', .ref d] n' } := fun H' I' h1 h2 => by
      obtain ⟨_, its, n, r, q1⟩ := I'.hok l _ h1
      obtain ⟨_, jts, n', r', q2⟩ := I'.hok b _ h2
      cases r with
      | cons r1 rr => cases rr with
        | cons r2 r3 =>
          cases r3
          cases r' with
          | cons w1 ww => cases ww with
            | cons w2 w3 =>
              cases w3
              obtain ⟨t, rfl⟩ := r1
              obtain ⟨t', rfl⟩ := w1
              cases r2
              cases w2
              exact ⟨t, t', n, n', q1, q2⟩
    rcases j with ⟨i1, I'⟩ | ⟨rfl, H', I', h1, h2, q⟩
    · obtain ⟨t, t', n, n', q1, q2⟩ := read _ I' hl hb
      refine ⟨_, _, _, _, q1, q2, rfl, rfl, fun k1 k2 => ?_⟩
      rcases (show i = 0 ∨ i = 1 by omega) with rfl | rfl
      · have q := SeqAt.EqAt.str_str (A := X.A.in1) (s := s') p t p t'
        rw [beq_self_eq_true] at q
        exact q X.prog X.w X.xe _ ⟨rfl, .inl ⟨Nat.le_refl _, I'⟩⟩
      · show wpAny (model X.prog X.w) X.A.in1 (eqBool (.ref a) (.ref d)) _ X.xe s'
        refine GQ.eqBool_refG ne ?_
        obtain ⟨mA, P, _⟩ := ins_get I'.hok ha
        obtain ⟨mB, P', _⟩ := ins_get I'.hok hd
        obtain ⟨od, P, _⟩ := P.look
        obtain ⟨od', P', _⟩ := P'.look
        obtain ⟨mm, hFr⟩ := I'.fr
        have e0 := I'.env0.in1
        rw [hK] at e0
        refine PySem.W.cmp_K (op := .Eq) (tb := .ref (C.ca k)) room.in1.room.units0 hFr I'.ok.mod.kin P P'.type (by simp [PySem.W.notFirst]) hs hf ?_
        refine wpAny_call (codeAny_mono (F.run X.A.in1 X.stack s' c ⟨[.ref a, .ref d], []⟩ [.ref a, .ref d] [.ref a, .ref d] [e, f] _ (fun _ _ _ => False) room.in1 e0 (by
          have := bd s' [.ref a, .ref d] (by rw [← hK]; exact I'.kIn) (by rw [hn]; rfl)
          simpa using this) (.cons rfl (.cons rfl .nil)) wf (.cons da (.one dd)) (by rw [hn]; rfl) hF) fun r s2 hq => ?_)
        cases r with
        | error er =>
          obtain ⟨_, _, _, _, _, _, _, _, _, _, _, _, z⟩ := hq
          exact False.elim z
        | ok fl =>
          cases fl with
          | ret w' =>
            obtain ⟨z, H2, I2, rz, ez, h1, h2, q⟩ := I'.after hq
            subst ez
            obtain rfl : w' = Value.bool true := rz
            exact ⟨true, rfl, rfl, .inr ⟨rfl, H2, I2, h1, h2, q⟩⟩
          | next => exact False.elim hq
          | brk => exact False.elim hq
          | cont => exact False.elim hq
    · obtain ⟨t, t', n, n', q1, q2⟩ := read _ I' h1 h2
      exact ⟨_, _, _, _, q1, q2, rfl, rfl, fun k1 k2 => absurd k1 (by simp)⟩
  · rcases j with ⟨h, _⟩ | ⟨_, H', I', _, _, q⟩
    · omega
    · exact ⟨.bl false, H', I', rfl, q⟩
/-- != of ["text", an instance] with an equal one; else of data -/
def oNeTI (k : Nat) (m : List D → M D) (x y : D) : M D := match x, y with
  | .lst [.str p, .loc i], .lst [.str q, .loc j] => guardM (decide (p = q) && !decide (i = j)) >>= fun _ => insM (.loc i) >>= fun a => insM (.loc j) >>= fun b => guardM (decide (a.1 = k) && decide (b.1 = k)) >>= fun _ => noX (m [.loc i, .loc j]) >>= fun r => asB r >>= fun t => guardM t >>= fun _ => pure (.bl false)
  | x, y => oNeS x y
def rNeTW (C : Ct) (k : Nat) (m : List D → M D) : R2 := fun x y H Q => rNeU C.K x y H Q ∨ rNeTI C k m x y H Q
theorem op_neTW {k kr : Nat} {m : List D → M D} (hu : X.A.units + 64 < cLine) (hK : X.K = C.K) (room : RoomG (kr + 1) X.A) (T : EqT X C kr k m) : OpR X (compareOp .NotEq) (rNeTW C k m) := by
  have h1 : OpR X (compareOp .NotEq) (rNeU C.K) := by rw [← hK]; exact op_neU hu
  exact h1.or (op_neTI hK room T)
theorem s_neTW {k : Nat} {m : List D → M D} : SimO C (rNeTW C k m) (oNeTI k m) := by
  intro c x y v w Q E wf dx dy hF
  unfold oNeTI at hF
  split at hF
  · rename_i p i q j
    refine .inr ?_
    obtain ⟨hg, h1⟩ := Fn.guard hF
    rw [Bool.and_eq_true] at hg
    obtain rfl : p = q := of_decide_eq_true hg.1
    have nij : i ≠ j := by
      have := hg.2
      simpa using this
    obtain ⟨l, vs, rfl, gl, dl⟩ := dx
    obtain ⟨b, us, rfl, gb, db⟩ := dy
    obtain ⟨v1, v2, rfl, d1, d2⟩ := den2 dl
    obtain ⟨u1, u2, rfl, e1, e2⟩ := den2 db
    cases (show v1 = V.str p from d1)
    cases (show u1 = V.str p from e1)
    obtain ⟨i', a, k1, fs, dx, gs, ei, rfl, hi, ra, hat, _, l1, h2⟩ := insM_sim wf d2 h1
    obtain ⟨j', d, k2, fs', dy, gs', ej, rfl, hj, rd, hat', _, l2, h3⟩ := insM_sim wf e2 h2
    cases ei
    cases ej
    obtain ⟨hk, h4⟩ := Fn.guard h3
    rw [Bool.and_eq_true] at hk
    obtain rfl : k1 = k := of_decide_eq_true hk.1
    obtain rfl : k2 = k1 := of_decide_eq_true hk.2
    have nad : a ≠ d := fun z => by
      subst z
      obtain ⟨_, e1', h1'⟩ := d2
      obtain ⟨_, e2', h2'⟩ := e2
      cases e1'
      cases e2'
      exact nij (nd_ix wf.nd h1' h2')
    refine ⟨c, l, b, p, a, d, dx, dy, gs, gs', .loc i, .loc j, rfl, wf, rfl, rfl, wf.ext _ _ gl, wf.ext _ _ gb, nad, hat, hat', d2, e2, ?_⟩
    refine Fn.noX h4 fun r c' x' w' h5 => ?_
    obtain ⟨t, rfl⟩ : ∃ t, r = .bl t := by
      cases r <;> first | exact False.elim h5 | exact ⟨_, rfl⟩
    obtain ⟨ht, h6⟩ := Fn.guard (show Fn C c' ((guardM t >>= fun _ => (pure (.bl false) : M D)) c'.s) (KD C Q) E from Fn.mono x' h5)
    subst ht
    intro v dv
    cases (show v = _ from dv)
    exact ⟨rfl, w'.ext _ _ (x'.g _ _ gl), w'.ext _ _ (x'.g _ _ gb), Fn.ok w' h6 _ rfl⟩
  · exact .inl (s_neS c _ _ v w Q E wf dx dy hF)
end
end DL
end
/-! # f(e, ..), f any expression that gives an instance -/
noncomputable section
namespace DL
open PySem L2
open PyProof.Rows hiding St
section
variable {X : Cx} {C : Ct} {c0 : Cf} {W : WX} {tg : Expr}
theorem se_callX {k n kr : Nat} {g : Addr} {fd : FuncData} {ps : List Str} {m : List D → M D} {fe e : Expr} {es : List Expr} {mo : LE → M D} {ma : LE → M (List D)} {pos : Pos} (c : StX.CallO X.K (C.ca k) g) (F : FnG X.prog X.w C X.mg X.base kr g fd ps m) (room : RoomG kr X.A) (tk : Takes X W)
    (df : Dfl C fd ps []) (hn : ps.length = n) (ho : SE X C W fe mo) (ha : SA X C W (e :: es) ma) (hK : X.K = C.K := by rfl)
    (ht : eval (.Call fe (e :: es) [] pos) X.env = (do callWith pos (← eval fe X.env) [] (backTo pos (starEach (e :: es) X.env)) (backToKw pos (keywordEach [] X.env))) := by rfl)
    (hst : starEach (e :: es) X.env = (false, eval e X.env) :: starEach es X.env := by rfl) (hpl : (backTo pos (starEach es X.env)).any (·.1) = false := by rfl) : SE X C W (.Call fe (e :: es) [] pos) (eCallI k n m mo ma) := by
  subst hn
  obtain ⟨to, po, so⟩ := ho.out
  obtain ⟨t, pa, sa⟩ := ha.out
  obtain ⟨dvs, dus, dv, db, dd⟩ := df.at'
  refine ⟨tCallIG C W k ps.length m to t, ⟨fun pins s σ H Q I h => ?_⟩, fun env σ c Q hR hF => ?_⟩
  · refine Call_ (thn (po.run pins s σ H _ I h) fun u s1 z => ?_) ht
    obtain ⟨x, H1, I1, rx, a, ex, q⟩ := z
    subst ex
    obtain rfl : u = Value.ref a := rx
    refine StX.callO_with (thn (pa.run pos pins s1 σ H1 _ I1 q) fun us s2 z => ?_) hst hpl
    obtain ⟨vs, H2, I2, rv, ⟨dx, gs, ea⟩, c', d, ds, rfl, wf, dn, dnl, hl, hF⟩ := z
    obtain ⟨ox, od, J, hd⟩ := StX.insC_at I2 (.inr ⟨dx, gs, ea⟩)
    have d0 := dd c'.G c'.ρ
    have dvs0 : dvs = [] := by simpa only [DenL] using d0
    subst dvs0
    cases dv
    have hlen : ((Value.ref a :: us) ++ []).length = ps.length := by
      rw [← hl]
      simp [← rv.length, dnl.length]
    exact ⟨⟨_, ox, od, J, hd⟩, wpAny_call (PySem.W.kco_code I2.kIn J hd c.at_ c.fn c.fi (fn_runC (args := ⟨Value.ref a :: us, []⟩) (us := (Value.ref a :: us) ++ []) hK F room tk I2 (db s2 (Value.ref a :: us) (by rw [← hK]; exact I2.kIn) hlen) (by rw [List.append_nil]; exact .cons rfl rv) wf (ds := d :: ds) (vs := V.ref a :: vs) (.cons dn dnl) hl hF))⟩
  · refine so env σ c _ hR (Fn.bind hF fun x c1 e1 w1 hF1 v dn => ?_)
    obtain ⟨i, a, k', fs, dx, gs, rfl, rfl, _, _, hat, _, l, h2⟩ := insM_sim w1 dn hF1
    refine ⟨a, rfl, ?_⟩
    refine sa env σ c1 _ (hR.ext e1 w1) (Fn.bind h2 fun ds c2 e2 w2 hF2 vs dnl => ?_)
    have dn2 := dn.mono e2.g e2.pre
    obtain ⟨i', a', k2, fs', dx', gs', ei, ea, _, _, hat', _, l', h3⟩ := insM_sim w2 dn2 hF2
    cases ea
    obtain ⟨hg, h4⟩ := Fn.guard h3
    obtain ⟨hz, h5⟩ := Fn.guard h4
    obtain rfl : k2 = k := of_decide_eq_true hg
    exact ⟨⟨dx', gs', hat'⟩, c2, .loc i, ds, rfl, w2, dn2, dnl, of_decide_eq_true hz, h5⟩
end
end DL
end
set_option Elab.async false
set_option linter.all false
set_option maxRecDepth 100000
set_option maxHeartbeats 4000000
noncomputable section
namespace Lw
open PySem L2 DL
open PyProof.Rows hiding St
def top (i : Nat) : Stmt := PySem.Challenge.pw_movednames_k09_worlds_of_one_server.main.body.getD i (.Pass ⟨0, 0, 0, 0⟩)
def c_LETTERS : D := (.str "abcdefghijklmnopqrstuvwxyz")
def c_MOST_LETTERS : D := (.int 8)
def c_MOST_SERVERS : D := (.int 5)
def c_MOST_TIME : D := (.int 1000000000)
abbrev fl_answerings : List Nat := [4]
abbrev fl_first : List Nat := [5]
abbrev fl_gone : List Nat := [4]
abbrev fl_parent : List Nat := [4]
abbrev fl_running : List Nat := [4]
abbrev fl_said : List Nat := [5]
abbrev fl_tellings : List Nat := [4]
def sub_World : Nat → Option Bool
  | 4 => some false
  | 5 => some true
  | _ => none
def mt_InvalidStep : Nat → Option Bool
  | 1 => some true
  | 2 => some false
  | 3 => some false
  | _ => none
def b_Told_init : SM := (sSeq (sSetF fl_parent "parent" (eVar 0) (eK .non)) (sSeq (sSetF fl_tellings "tellings" (eVar 0) (eLoc nDct0)) (sSeq (sSetF fl_answerings "answerings" (eVar 0) (eLoc nDct0)) (sSeq (sSetF fl_running "running" (eVar 0) (eLoc nDct0)) (sSetF fl_gone "gone" (eVar 0) (eLoc nDct0))))))
def m_Told_init : List D → M D := mFn 1 b_Told_init
def b_Told_say : SM := (sSeq (sPar 2 3 (aCons (eIx (eVar 1) (eK (.int 0))) (aCons (eIx (eVar 1) (eK (.int 1))) aNil))) (sIf (tOf (eBin oEqS (eVar 2) (eK (.str "parent")))) (sSetF fl_parent "parent" (eVar 0) (eTup (aCons (eIx (eVar 1) (eK (.int 1))) (aCons (eIx (eVar 1) (eK (.int 2))) aNil)))) (sIf (tOf (eBin oEqS (eVar 2) (eK (.str "tells")))) (sDput (eFld fl_tellings "tellings" (eVar 0)) (eVar 3) (eTup (aCons (eIx (eVar 1) (eK (.int 2))) (aCons (eIx (eVar 1) (eK (.int 3))) aNil)))) (sIf (tOf (eBin oEqS (eVar 2) (eK (.str "answers")))) (sDput (eFld fl_answerings "answerings" (eVar 0)) (eVar 3) (eTup (aCons (eIx (eVar 1) (eK (.int 2))) (aCons (eIx (eVar 1) (eK (.int 3))) aNil)))) (sIf (tOf (eBin oIn (eVar 2) (eTup (aCons (eK (.str "on")) (aCons (eK (.str "off")) aNil))))) (sDput (eFld fl_running "running" (eVar 0)) (eVar 3) (eBin oEqS (eVar 2) (eK (.str "on")))) (sDput (eFld fl_gone "gone" (eVar 0)) (eVar 3) (eBin oEqS (eVar 2) (eK (.str "gone")))))))))
def m_Told_say : List D → M D := mFn 4 b_Told_say
def b_Told_is_ready : SM := (sRet (eAnd (eDGet2 (eFld fl_running "running" (eVar 0)) (eVar 1) (eK (.bl false))) (eAnd (eBin oDIn (eVar 1) (eFld fl_tellings "tellings" (eVar 0))) (eBin oDIn (eVar 1) (eFld fl_answerings "answerings" (eVar 0))))))
def m_Told_is_ready : List D → M D := mFn 2 b_Told_is_ready
def b_Told_told_rows : SM := (sSeq (sSet 2 (eFrz (eB (on1 nSortS) (aCons (eFrz (mLock (eFld fl_running "running" (eVar 0)) (nLc (iKeysD (eFld fl_running "running" (eVar 0))) (gN 1) (tOf (eMeth 4 2 "is_ready" m_Told_is_ready [] (eVar 0) (aCons (eVar 1) aNil))) (eB (on1 oStr) (aCons (eVar 1) aNil)) [1]))) aNil)))) (sRet (eB (on1 oTuple) (aCons (eFrz (nLc (iItems (eVar 2)) (gN 1) tTrue (eBin oAdd (eBin oAdd (eTup (aCons (eVar 1) aNil)) (eBin oDGet (eFld fl_tellings "tellings" (eVar 0)) (eVar 1))) (eBin oDGet (eFld fl_answerings "answerings" (eVar 0)) (eVar 1))) [1])) aNil))))
def m_Told_told_rows : List D → M D := mFn 3 b_Told_told_rows
def b_in_order : SM := (sRet (eBin oAdd (eBin oRep01 (eTup (aCons (eK .non) aNil)) (eB (on1 oInt) (aCons (eBin oIn (eK .non) (eVar 0)) aNil))) (eB (on1 oTuple) (aCons (eFrz (eB (on1 nSortS) (aCons (eFrz (nLc (iItems (eVar 0)) (gN 1) (tOf (eBin oNotN (eVar 1) (eK .non))) (eB (on1 oStr) (aCons (eVar 1) aNil)) [1])) aNil))) aNil))))
def m_in_order : List D → M D := mFn 2 b_in_order
def b_Told_seen : SM := (sRet (eTup (aCons (eFld fl_parent "parent" (eVar 0)) (aCons (eMeth 4 1 "told_rows" m_Told_told_rows [] (eVar 0) aNil) (aCons (eCall 1 m_in_order [] (aCons (eFrz (mLock (eFld fl_gone "gone" (eVar 0)) (nLc (iItemsD (eFld fl_gone "gone" (eVar 0))) (gTupM 2 (gsCons (gN 1) (gsCons (gN 2) gsNil))) (tOf (eVar 2)) (eVar 1) [1, 2]))) aNil)) aNil)))))
def m_Told_seen : List D → M D := mFn 3 b_Told_seen
def b_World_moments : SM := (sRet (eFrz (eB (on1 nSortU) (aCons (eFrz (mLock (eFld fl_said "said" (eVar 0)) (nLc (iKeysD (eFld fl_said "said" (eVar 0))) (gN 1) tTrue (eB (on1 oInt) (aCons (eVar 1) aNil)) [1]))) aNil))))
def m_World_moments : List D → M D := mFn 2 b_World_moments
def b_is_integer : SM := (sRet (eAnd (eIsT noSub .int (eVar 0)) (eNot (eIsT noSub .bl (eVar 0)))))
def m_is_integer : List D → M D := mFn 1 b_is_integer
def b_World_call_L1 : SM := (sExpr (eMeth 4 2 "say" m_Told_say [] (eVar 2) (aCons (eVar 3) aNil)))
def b_World_call_L2 : SM := (sExpr (eMeth 4 2 "say" m_Told_say [] (eVar 2) (aCons (eVar 3) aNil)))
def b_World_call_L3 : SM := (sIf (tOf (eBin oLe (eVar 4) (eVar 1))) (sFor (iItems (eBin oDGet (eFld fl_said "said" (eVar 0)) (eVar 4))) (gN 3) b_World_call_L2) sNext)
def b_World_call : SM := (sSeq (sIf (tNotM (tOf (eCall 1 m_is_integer [] (aCons (eVar 1) aNil)))) (sRaise 2 "value" (eVar 1)) sNext) (sSeq (sSet 2 (eMake 4 1 m_Told_init [] aNil)) (sSeq (sFor (iItems (eFld fl_first "first" (eVar 0))) (gN 3) b_World_call_L1) (sSeq (sFor (iItems (eMeth 5 1 "moments" m_World_moments [] (eVar 0) aNil)) (gN 4) b_World_call_L3) (sRet (eMeth 4 1 "seen" m_Told_seen [] (eVar 2) aNil))))))
def m_World_call : List D → M D := mFn 5 b_World_call
def b_World_eq : SM := (sRet (eAnd (eIsC sub_World (eVar 1)) (eAnd (eBin oEqS (eFld fl_first "first" (eVar 0)) (eFld fl_first "first" (eVar 1))) (eBin oEqDD (eFld fl_said "said" (eVar 0)) (eFld fl_said "said" (eVar 1))))))
def m_World_eq : List D → M D := mFn 2 b_World_eq
def b_is_word : SM := (sSeq (sIf (tOrM (tNotM (tOf (eIsT noSub .str (eVar 0)))) (tNotM (tOf (eChain oLe oLe (eK (.int 1)) (eB (on1 oLen) (aCons (eVar 0) aNil)) (eK c_MOST_LETTERS))))) (sRet (eK (.bl false))) sNext) (sRet (eB (on1 oAll) (aCons (eFrz (nLc (iItems (eVar 0)) (gN 1) tTrue (eBin oIn (eVar 1) (eK c_LETTERS)) [1])) aNil))))
def m_is_word : List D → M D := mFn 2 b_is_word
def b_is_servers : SM := (sSeq (sIf (tOrM (tNotM (tOf (eIsT noSub .tup (eVar 0)))) (tNotM (tOf (eChain oLe oLe (eK (.int 1)) (eB (on1 oLen) (aCons (eVar 0) aNil)) (eK c_MOST_SERVERS))))) (sRet (eK (.bl false))) sNext) (sSeq (sIf (tNotM (tOf (eB (on1 oAll) (aCons (eFrz (nLc (iItems (eVar 0)) (gN 1) tTrue (eCall 1 m_is_word [] (aCons (eVar 1) aNil)) [1])) aNil)))) (sRet (eK (.bl false))) sNext) (sRet (eB (on1 oAll) (aCons (eFrz (nLc (iRg1 (eBin oSub (eB (on1 oLen) (aCons (eVar 0) aNil)) (eK (.int 1)))) (gN 2) tTrue (eBin oLt (eIx (eVar 0) (eVar 2)) (eIx (eVar 0) (eBin oAdd (eVar 2) (eK (.int 1))))) [2])) aNil)))))
def m_is_servers : List D → M D := mFn 3 b_is_servers
def b_is_between : SM := (sRet (eAnd (eCall 1 m_is_integer [] (aCons (eVar 0) aNil)) (eChain oLe oLe (eVar 1) (eVar 0) (eVar 2))))
def m_is_between : List D → M D := mFn 3 b_is_between
def b_is_time : SM := (sRet (eCall 3 m_is_between [] (aCons (eVar 0) (aCons (eK (.int 1)) (aCons (eK c_MOST_TIME) aNil)))))
def m_is_time : List D → M D := mFn 1 b_is_time
def b_is_value : SM := (sRet (eOr (eBin oIsN (eVar 0) (eK .non)) (eCall 1 m_is_word [] (aCons (eVar 0) aNil))))
def m_is_value : List D → M D := mFn 1 b_is_value
def b_is_step : SM := (sSeq (sIf (tOrM (tNotM (tOf (eIsT noSub .tup (eVar 0)))) (tOrM (tOf (eBin oLt (eB (on1 oLen) (aCons (eVar 0) aNil)) (eK (.int 2)))) (tNotM (tOf (eIsT noSub .str (eIx (eVar 0) (eK (.int 0)))))))) (sRet (eK (.bl false))) sNext) (sSeq (sSet 1 (eIx (eVar 0) (eK (.int 0)))) (sSeq (sIf (tOf (eBin oEqS (eVar 1) (eK (.str "parent")))) (sRet (eAnd (eBin oEqS (eB (on1 oLen) (aCons (eVar 0) aNil)) (eK (.int 3))) (eAnd (eCall 1 m_is_servers [] (aCons (eIx (eVar 0) (eK (.int 1))) aNil)) (eCall 1 m_is_time [] (aCons (eIx (eVar 0) (eK (.int 2))) aNil))))) sNext) (sSeq (sIf (tOf (eBin oEqS (eVar 1) (eK (.str "tells")))) (sRet (eAnd (eBin oEqS (eB (on1 oLen) (aCons (eVar 0) aNil)) (eK (.int 4))) (eAnd (eCall 1 m_is_word [] (aCons (eIx (eVar 0) (eK (.int 1))) aNil)) (eAnd (eCall 1 m_is_servers [] (aCons (eIx (eVar 0) (eK (.int 2))) aNil)) (eCall 1 m_is_time [] (aCons (eIx (eVar 0) (eK (.int 3))) aNil)))))) sNext) (sSeq (sIf (tOf (eBin oEqS (eVar 1) (eK (.str "answers")))) (sRet (eAnd (eBin oEqS (eB (on1 oLen) (aCons (eVar 0) aNil)) (eK (.int 4))) (eAnd (eCall 1 m_is_word [] (aCons (eIx (eVar 0) (eK (.int 1))) aNil)) (eAnd (eCall 1 m_is_value [] (aCons (eIx (eVar 0) (eK (.int 2))) aNil)) (eCall 1 m_is_time [] (aCons (eIx (eVar 0) (eK (.int 3))) aNil)))))) sNext) (sSeq (sIf (tOf (eBin oIn (eVar 1) (eTup (aCons (eK (.str "on")) (aCons (eK (.str "off")) aNil))))) (sRet (eAnd (eBin oEqS (eB (on1 oLen) (aCons (eVar 0) aNil)) (eK (.int 2))) (eCall 1 m_is_word [] (aCons (eIx (eVar 0) (eK (.int 1))) aNil)))) sNext) (sRet (eAnd (eBin oIn (eVar 1) (eTup (aCons (eK (.str "gone")) (aCons (eK (.str "good")) aNil)))) (eAnd (eBin oEqS (eB (on1 oLen) (aCons (eVar 0) aNil)) (eK (.int 2))) (eCall 1 m_is_value [] (aCons (eIx (eVar 0) (eK (.int 1))) aNil)))))))))))
def m_is_step : List D → M D := mFn 2 b_is_step
def b_check_step : SM := (sIf (tNotM (tOf (eCall 1 m_is_step [] (aCons (eVar 0) aNil)))) (sRaise 1 "step" (eVar 0)) sNext)
def m_check_step : List D → M D := mFn 1 b_check_step
def b_servers_of : SM := (sSeq (sExpr (eCall 1 m_check_step [] (aCons (eVar 0) aNil))) (sSeq (sIf (tOf (eBin oEqS (eIx (eVar 0) (eK (.int 0))) (eK (.str "parent")))) (sRet (eFrz (eB (on1 nList) (aCons (eIx (eVar 0) (eK (.int 1))) aNil)))) sNext) (sSeq (sIf (tOf (eBin oIn (eIx (eVar 0) (eK (.int 0))) (eTup (aCons (eK (.str "gone")) (aCons (eK (.str "good")) aNil))))) (sRet (eFrz (nLst aNil))) sNext) (sSeq (sSet 1 (eBin oAdd (eFrz (nLst (aCons (eIx (eVar 0) (eK (.int 1))) aNil))) (eIf (tOf (eBin oEqS (eIx (eVar 0) (eK (.int 0))) (eK (.str "tells")))) (eFrz (eB (on1 nList) (aCons (eIx (eVar 0) (eK (.int 2))) aNil))) (eFrz (nLst aNil))))) (sRet (eFrz (nSortSc (iItems (eVar 1)) (gN 2) tTrue (eB (on1 oStr) (aCons (eVar 2) aNil)) [2])))))))
def m_servers_of : List D → M D := mFn 3 b_servers_of
def b_named_by_L1 : SM := (sExt 1 (eCall 1 m_servers_of [] (aCons (eVar 2) aNil)))
def b_named_by : SM := (sSeq (sOwn 1 (nLst aNil)) (sSeq (sFor (iItems (eVar 0)) (gN 2) b_named_by_L1) (sFrz 1 (sRet (eFrz (nSortSc (iItems (eVar 1)) (gN 3) tTrue (eB (on1 oStr) (aCons (eVar 3) aNil)) [3]))))))
def m_named_by : List D → M D := mFn 4 b_named_by
def b_World_init_L1 : SM := (sExpr (eCall 1 m_check_step [] (aCons (eVar 2) aNil)))
def b_World_init : SM := (sSeq (sFor (iItems (eVar 1)) (gN 2) b_World_init_L1) (sSeq (sIf (tOrM (tNotM (tOf (eB (on1 oAny) (aCons (eFrz (nLc (iItems (eVar 1)) (gN 2) tTrue (eBin oEqS (eIx (eVar 2) (eK (.int 0))) (eK (.str "parent"))) [2])) aNil)))) (tOf (eBin oGt (eB (on1 oLen) (aCons (eCall 1 m_named_by [] (aCons (eVar 1) aNil)) aNil)) (eK c_MOST_SERVERS)))) (sRaise 3 "value" (eK .non)) sNext) (sSeq (sSetF fl_first "first" (eVar 0) (eVar 1)) (sSetF fl_said "said" (eVar 0) (eLoc nDct0)))))
def m_World_init : List D → M D := mFn 3 b_World_init
def b_World_of : SM := (sSeq (sIf (tNotM (tOf (eIsTT .lst .tup (eVar 0)))) (sRaise 1 "step" (eVar 0)) sNext) (sRet (eMakeS 5 0 m_World_init (aStar (eVar 0) aNil))))
def m_World_of : List D → M D := mFn 1 b_World_of
def b_World_all_steps_L1 : SM := (sExt 1 (eVar 2))
def b_World_all_steps : SM := (sSeq (sOwn 1 (eB (on1 nList) (aCons (eFld fl_first "first" (eVar 0)) aNil))) (sSeq (sLock (eFld fl_said "said" (eVar 0)) (sFor (iValsD (eFld fl_said "said" (eVar 0))) (gN 2) b_World_all_steps_L1)) (sFrz 1 (sRet (eVar 1)))))
def m_World_all_steps : List D → M D := mFn 3 b_World_all_steps
def b_World_servers : SM := (sRet (eCall 1 m_named_by [] (aCons (eMeth 5 1 "all_steps" m_World_all_steps [] (eVar 0) aNil) aNil)))
def m_World_servers : List D → M D := mFn 1 b_World_servers
def b__law_draw : SM := (sSeq (sIf (tOf (eBin oGt (eIx (eVar 0) (eK (.int 0))) (eK (.int 0)))) (sSeq (sSet 2 (eBin oMod (eB (on1 oInt) (aCons (eIx (eVar 0) (eK (.int 0))) aNil)) (eVar 1))) (sSeq (sSetIx (eVar 0) (eK (.int 0)) (eBin oDiv (eIx (eVar 0) (eK (.int 0))) (eVar 1))) (sRet (eVar 2)))) sNext) (sSeq (sSetIx (eVar 0) (eK (.int 1)) (eBin oMod (eB (on1 oInt) (aCons (eBin oAdd (eBin oMul (eIx (eVar 0) (eK (.int 1))) (eK (.int 39373))) (eK (.int 7))) aNil)) (eK (.int 2147483647)))) (sRet (eBin oMod (eB (on1 oInt) (aCons (eBin oDiv (eBin oMod (eB (on1 oInt) (aCons (eBin oMul (eIx (eVar 0) (eK (.int 1))) (eIx (eVar 0) (eK (.int 1)))) aNil)) (eK (.int 2147483629))) (eK (.int 32))) aNil)) (eVar 1)))))
def m__law_draw : List D → M D := mFn 3 b__law_draw
def b__law_choose : SM := (sRet (eIx (eVar 1) (eCall 2 m__law_draw [] (aCons (eVar 0) (aCons (eB (on1 oLen) (aCons (eVar 1) aNil)) aNil)))))
def m__law_choose : List D → M D := mFn 2 b__law_choose
def b__law_stream : SM := (sSeq (sSet 2 (eK (.int 0))) (sSeq (sIf (tOf (eBin oLt (eVar 1) (eB (on1 oLen) (aCons (eVar 0) aNil)))) (sSet 2 (eIx (eVar 0) (eVar 1))) sNext) (sSeq (sSet 3 (eB (on2 oMax2) (aCons (eB (on1 oInt) (aCons (eVar 2) aNil)) (aCons (eB (on1 oInt) (aCons (eBin oSub (eNeg (eK (.int 1))) (eVar 2)) aNil)) aNil)))) (sSeq (sSet 4 (eBin oMod (eB (on1 oInt) (aCons (eBin oMul (eBin oAdd (eBin oAdd (eBin oAdd (eBin oMod (eB (on1 oInt) (aCons (eVar 3) aNil)) (eK (.int 2147483629))) (eBin oMul (eBin oMul (eK (.int 7919)) (eVar 1)) (eVar 1))) (eBin oMul (eK (.int 31)) (eVar 1))) (eK (.int 17))) (eK (.int 48271))) aNil)) (eK (.int 2147483647)))) (sRet (eLoc (nLst (aCons (eBin oMul (eVar 3) (eB (on1 oInt) (aCons (eBin oGe (eVar 3) (eBin oPow (eK (.int 10)) (eK (.int 18)))) aNil))) (aCons (eVar 4) aNil)))))))))
def m__law_stream : List D → M D := mFn 5 b__law_stream
def b_ready_L1 : SM := (sExpr (eCall 1 m_check_step [] (aCons (eVar 7) aNil)))
def b_ready : SM := (sSeq (sSet 5 (eIf (tOf (eBin oIsN (eVar 4) (eK .non))) (eVar 3) (eVar 4))) (sSeq (sSet 6 (eFrz (nLst (aCons (eTup (aCons (eK (.str "tells")) (aCons (eVar 0) (aCons (eVar 1) (aCons (eVar 3) aNil))))) (aCons (eTup (aCons (eK (.str "answers")) (aCons (eVar 0) (aCons (eVar 2) (aCons (eVar 5) aNil))))) (aCons (eTup (aCons (eK (.str "on")) (aCons (eVar 0) aNil))) aNil)))))) (sSeq (sFor (iItems (eVar 6)) (gN 7) b_ready_L1) (sRet (eVar 6)))))
def m_ready : List D → M D := mFn 8 b_ready
def b_World_of_one : SM := (sSeq (sSet 3 (eCallK 2 2 m_ready (fun ds zs => ds ++ (zs ++ [.non])) (aCons (eVar 0) (aCons (eTup (aCons (eVar 0) aNil)) aNil)) (aCons (eVar 1) (aCons (eVar 2) aNil)))) (sRet (eMakeS 5 0 m_World_init (aCons (eTup (aCons (eK (.str "parent")) (aCons (eTup (aCons (eVar 0) aNil)) (aCons (eVar 2) aNil)))) (aStar (eVar 3) aNil)))))
def m_World_of_one : List D → M D := mFn 4 b_World_of_one
def b__law_told : SM := (sTryAs 3 mt_InvalidStep (sRet (eFrz (nLst (aCons (eK (.str "world")) (aCons (eCallK 2 1 m_World_of_one (fun ds zs => ds ++ zs) (aCons (eVar 0) (aCons (eVar 1) aNil)) (aCons (eVar 2) aNil)) aNil))))) (eFrz (nLst (aCons (eK (.str "wrong")) (aCons (eB (on1 oRepr) (aCons (eXf "step" (eVar 3)) aNil)) aNil)))))
def m__law_told : List D → M D := mFn 4 b__law_told
def b__law_words : SM := (sSeq (sSet 2 (eK (.str "abcdefghijklmnopqrstuvwxyz"))) (sSeq (sAsg (eTup (aCons (eCall 2 m__law_draw [] (aCons (eVar 0) (aCons (eK (.int 26)) aNil))) (aCons (eCall 2 m__law_choose [] (aCons (eVar 0) (aCons (eFrz (nLst (aCons (eK (.int 1)) (aCons (eK (.int 3)) (aCons (eK (.int 5)) (aCons (eK (.int 7)) (aCons (eK (.int 9)) (aCons (eK (.int 11)) (aCons (eK (.int 15)) (aCons (eK (.int 17)) (aCons (eK (.int 19)) (aCons (eK (.int 21)) (aCons (eK (.int 23)) (aCons (eK (.int 25)) aNil)))))))))))))) aNil))) aNil))) (gTupM 2 (gsCons (gN 3) (gsCons (gN 4) gsNil)))) (sSeq (sSet 6 (eJoin (eK (.str "")) (eFrz (nLc (iRg1 (eCall 2 m__law_draw [] (aCons (eVar 0) (aCons (eK (.int 4)) aNil)))) (gN 5) tTrue (eCall 2 m__law_choose [] (aCons (eVar 0) (aCons (eVar 2) aNil))) [5])))) (sSeq (sSet 7 (eJoin (eK (.str "")) (eFrz (nLc (iRg1 (eCall 2 m__law_draw [] (aCons (eVar 0) (aCons (eK (.int 4)) aNil)))) (gN 5) tTrue (eCall 2 m__law_choose [] (aCons (eVar 0) (aCons (eVar 2) aNil))) [5])))) (sRet (eFrz (nLc (iRg1 (eVar 1)) (gN 8) tTrue (eBin oAdd (eBin oAdd (eVar 6) (eIx (eVar 2) (eBin oMod (eB (on1 oInt) (aCons (eBin oAdd (eVar 3) (eBin oMul (eVar 4) (eVar 8))) aNil)) (eK (.int 26))))) (eVar 7)) [8])))))))
def m__law_words : List D → M D := mFn 9 b__law_words
def b_law_L1 : SM := (sIf (tOf (eBin oNeS (eCallI 5 2 m_World_call (eIx (eVar 13) (eK (.int 1))) (aCons (eVar 14) aNil)) (eTup (aCons (eTup (aCons (eTup (aCons (eVar 7) aNil)) (aCons (eVar 9) aNil))) (aCons (eTup (aCons (eTup (aCons (eVar 7) (aCons (eTup (aCons (eVar 7) aNil)) (aCons (eVar 9) (aCons (eVar 8) (aCons (eVar 9) aNil)))))) aNil)) (aCons (eTup aNil) aNil)))))) (sRet (eK (.bl false))) sNext)
def b_law_L2 : SM := (sSeq (sOwn 6 (nLst (aCons (eIx (eVar 4) (eK (.int 0))) (aCons (eCall 2 m__law_choose [] (aCons (eVar 3) (aCons (eFrz (nLst (aCons (eK .non) (aCons (eIx (eVar 4) (eK (.int 0))) (aCons (eIx (eVar 4) (eK (.int 1))) aNil))))) aNil))) aNil)))) (sSeq (sApp 6 (eCall 2 m__law_choose [] (aCons (eVar 3) (aCons (eFrz (nLst (aCons (eK (.int 1)) (aCons (eK (.int 2)) (aCons (eBin oPow (eK (.int 10)) (eK (.int 9))) (aCons (eBin oAdd (eK (.int 1)) (eCall 2 m__law_draw [] (aCons (eVar 3) (aCons (eBin oPow (eK (.int 10)) (eK (.int 9))) aNil)))) aNil)))))) aNil)))) (sSeq (sIf (tOf (eBin oEqS (eCall 2 m__law_draw [] (aCons (eVar 3) (aCons (eK (.int 2)) aNil))) (eK (.int 0)))) (sSetIxO 6 (eCall 2 m__law_draw [] (aCons (eVar 3) (aCons (eK (.int 3)) aNil))) (eCall 2 m__law_choose [] (aCons (eVar 3) (aCons (eVar 1) aNil)))) sNext) (sSeq (sFrz 6 (sAsgL 3 (eVar 6) (gsCons (gN 7) (gsCons (gN 8) (gsCons (gN 9) gsNil))))) (sSeq (sSet 10 (eFrz (nLst (aCons (eTup (aCons (eK (.str "tells")) (aCons (eVar 7) (aCons (eTup (aCons (eVar 7) aNil)) (aCons (eVar 9) aNil))))) (aCons (eTup (aCons (eK (.str "answers")) (aCons (eVar 7) (aCons (eVar 8) (aCons (eVar 9) aNil))))) (aCons (eTup (aCons (eK (.str "on")) (aCons (eVar 7) aNil))) aNil)))))) (sSeq (sOwn 12 (nLc (iItems (eVar 10)) (gN 11) (tNotM (tOf (eCall 1 m_is_step [] (aCons (eVar 11) aNil)))) (eVar 11) [11])) (sSeq (sFrz 12 (sSet 13 (eCall 3 m__law_told [] (aCons (eVar 7) (aCons (eVar 8) (aCons (eVar 9) aNil)))))) (sIf (tOf (eBin oNeS (eVar 12) (eFrz (nLst aNil)))) (sIf (tOf (eBin oNeS (eVar 13) (eFrz (nLst (aCons (eK (.str "wrong")) (aCons (eB (on1 oRepr) (aCons (eIx (eVar 12) (eK (.int 0))) aNil)) aNil)))))) (sRet (eK (.bl false))) sNext) (sSeq (sIf (tOf (eBin (oNeTI 5 m_World_eq) (eVar 13) (eFrz (nLst (aCons (eK (.str "world")) (aCons (eCall 1 m_World_of [] (aCons (eBin oAdd (eFrz (nLst (aCons (eTup (aCons (eK (.str "parent")) (aCons (eTup (aCons (eVar 7) aNil)) (aCons (eVar 9) aNil)))) aNil))) (eVar 10)) aNil)) aNil)))))) (sRet (eK (.bl false))) sNext) (sSeq (sFor (iItems (eFrz (nLst (aCons (eNeg (eK (.int 5))) (aCons (eK (.int 0)) (aCons (eBin oPow (eK (.int 10)) (eK (.int 9))) aNil)))))) (gN 14) b_law_L1) (sIf (tOrM (tOf (eBin oNeS (eMeth 5 1 "moments" m_World_moments [] (eIx (eVar 13) (eK (.int 1))) aNil) (eFrz (nLst aNil)))) (tOf (eBin oNeS (eMeth 5 1 "servers" m_World_servers [] (eIx (eVar 13) (eK (.int 1))) aNil) (eFrz (nLst (aCons (eVar 7) aNil)))))) (sRet (eK (.bl false))) sNext)))))))))))
def b_law_L3 : SM := (sSeq (sSet 3 (eCall 2 m__law_stream [] (aCons (eVar 0) (aCons (eVar 2) aNil)))) (sSeq (sSet 4 (eCall 2 m__law_words [] (aCons (eVar 3) (aCons (eK (.int 2)) aNil)))) (sFor (iRg1 (eK (.int 6))) (gN 5) b_law_L2)))
def b_law : SM := (sSeq (sSet 1 (eFrz (nLst (aCons (eK .non) (aCons (eK (.bl true)) (aCons (eK (.int 0)) (aCons (eBin oAdd (eBin oPow (eK (.int 10)) (eK (.int 9))) (eK (.int 1))) (aCons (eK (.str "")) (aCons (eK (.str "A")) (aCons (eTup aNil) (aCons (eFrz (nLst (aCons (eK (.str "a")) aNil))) (aCons (eK (.str "abcdefghi")) (aCons (eK (.int 5)) (aCons (eK (.str "b1")) aNil)))))))))))))) (sSeq (sFor (iRg1 (eB (on2 oMax2) (aCons (eK (.int 1)) (aCons (eB (on2 oMin2) (aCons (eK (.int 12)) (aCons (eB (on1 oLen) (aCons (eVar 0) aNil)) aNil))) aNil)))) (gN 2) b_law_L3) (sRet (eK (.bl true)))))
def m_law : List D → M D := mFn 15 b_law
structure Txt (w : World) (C : Ct) (mg : Str → Option Value) (fa fi : Nat → Addr) (fd : Nat → FuncData) : Prop where
  ex : C.ex = none
  n_all : mg "all" = none
  n_any : mg "any" = none
  n_bool : mg "bool" = none
  n_int : mg "int" = none
  n_isinstance : mg "isinstance" = none
  n_len : mg "len" = none
  n_list : mg "list" = none
  n_max : mg "max" = none
  n_min : mg "min" = none
  n_range : mg "range" = none
  n_repr : mg "repr" = none
  n_sorted : mg "sorted" = none
  n_str : mg "str" = none
  n_tuple : mg "tuple" = none
  c_LETTERS : Cst C mg "LETTERS" c_LETTERS
  c_MOST_LETTERS : Cst C mg "MOST_LETTERS" c_MOST_LETTERS
  c_MOST_SERVERS : Cst C mg "MOST_SERVERS" c_MOST_SERVERS
  c_MOST_TIME : Cst C mg "MOST_TIME" c_MOST_TIME
  k_Told_init : PySem.W.keepIn C.K (.ref (fa 0)) = true
  f_Told_init : L2.Fun C.K "__init__" "Told.__init__" (inClass (top 27) 0) (fa 0) (fd 0)
  b_Told_init : L2.Binds C.K (fd 0) ["self"] []
  k_Told_say : PySem.W.keepIn C.K (.ref (fa 1)) = true
  f_Told_say : L2.Fun C.K "say" "Told.say" (inClass (top 27) 1) (fa 1) (fd 1)
  b_Told_say : L2.Binds C.K (fd 1) ["self", "step"] []
  me_Told_say : L2.Meth C.K (C.ca 4) "say" (fa 1)
  k_Told_is_ready : PySem.W.keepIn C.K (.ref (fa 2)) = true
  f_Told_is_ready : L2.Fun C.K "is_ready" "Told.is_ready" (inClass (top 27) 2) (fa 2) (fd 2)
  b_Told_is_ready : L2.Binds C.K (fd 2) ["self", "server"] []
  me_Told_is_ready : L2.Meth C.K (C.ca 4) "is_ready" (fa 2)
  k_Told_told_rows : PySem.W.keepIn C.K (.ref (fa 3)) = true
  f_Told_told_rows : L2.Fun C.K "told_rows" "Told.told_rows" (inClass (top 27) 3) (fa 3) (fd 3)
  b_Told_told_rows : L2.Binds C.K (fd 3) ["self"] []
  me_Told_told_rows : L2.Meth C.K (C.ca 4) "told_rows" (fa 3)
  g_in_order : mg "in_order" = some (.ref (fa 4))
  k_in_order : PySem.W.keepIn C.K (.ref (fa 4)) = true
  f_in_order : L2.Fun C.K "in_order" "in_order" (top 22) (fa 4) (fd 4)
  b_in_order : L2.Binds C.K (fd 4) ["values"] []
  k_Told_seen : PySem.W.keepIn C.K (.ref (fa 5)) = true
  f_Told_seen : L2.Fun C.K "seen" "Told.seen" (inClass (top 27) 4) (fa 5) (fd 5)
  b_Told_seen : L2.Binds C.K (fd 5) ["self"] []
  me_Told_seen : L2.Meth C.K (C.ca 4) "seen" (fa 5)
  k_World_moments : PySem.W.keepIn C.K (.ref (fa 6)) = true
  f_World_moments : L2.Fun C.K "moments" "World.moments" (inClass (top 28) 10) (fa 6) (fd 6)
  b_World_moments : L2.Binds C.K (fd 6) ["self"] []
  me_World_moments : L2.Meth C.K (C.ca 5) "moments" (fa 6)
  g_is_integer : mg "is_integer" = some (.ref (fa 7))
  k_is_integer : PySem.W.keepIn C.K (.ref (fa 7)) = true
  f_is_integer : L2.Fun C.K "is_integer" "is_integer" (top 11) (fa 7) (fd 7)
  b_is_integer : L2.Binds C.K (fd 7) ["value"] []
  k_World_call : PySem.W.keepIn C.K (.ref (fa 8)) = true
  f_World_call : L2.Fun C.K "__call__" "World.__call__" (inClass (top 28) 13) (fa 8) (fd 8)
  b_World_call : L2.Binds C.K (fd 8) ["self", "moment"] []
  me_World_call : L2.Meth C.K (C.ca 5) "__call__" (fa 8)
  co_World_call : StX.CallO C.K (C.ca 5) (fa 8)
  k_World_eq : PySem.W.keepIn C.K (.ref (fa 9)) = true
  f_World_eq : L2.Fun C.K "__eq__" "World.__eq__" (inClass (top 28) 17) (fa 9) (fd 9)
  b_World_eq : L2.Binds C.K (fd 9) ["self", "other"] []
  me_World_eq : L2.Meth C.K (C.ca 5) "__eq__" (fa 9)
  g_is_word : mg "is_word" = some (.ref (fa 10))
  k_is_word : PySem.W.keepIn C.K (.ref (fa 10)) = true
  f_is_word : L2.Fun C.K "is_word" "is_word" (top 13) (fa 10) (fd 10)
  b_is_word : L2.Binds C.K (fd 10) ["value"] []
  g_is_servers : mg "is_servers" = some (.ref (fa 11))
  k_is_servers : PySem.W.keepIn C.K (.ref (fa 11)) = true
  f_is_servers : L2.Fun C.K "is_servers" "is_servers" (top 17) (fa 11) (fd 11)
  b_is_servers : L2.Binds C.K (fd 11) ["value"] []
  g_is_between : mg "is_between" = some (.ref (fa 12))
  k_is_between : PySem.W.keepIn C.K (.ref (fa 12)) = true
  f_is_between : L2.Fun C.K "is_between" "is_between" (top 12) (fa 12) (fd 12)
  b_is_between : L2.Binds C.K (fd 12) ["value", "least", "most"] []
  g_is_time : mg "is_time" = some (.ref (fa 13))
  k_is_time : PySem.W.keepIn C.K (.ref (fa 13)) = true
  f_is_time : L2.Fun C.K "is_time" "is_time" (top 14) (fa 13) (fd 13)
  b_is_time : L2.Binds C.K (fd 13) ["value"] []
  g_is_value : mg "is_value" = some (.ref (fa 14))
  k_is_value : PySem.W.keepIn C.K (.ref (fa 14)) = true
  f_is_value : L2.Fun C.K "is_value" "is_value" (top 16) (fa 14) (fd 14)
  b_is_value : L2.Binds C.K (fd 14) ["value"] []
  g_is_step : mg "is_step" = some (.ref (fa 15))
  k_is_step : PySem.W.keepIn C.K (.ref (fa 15)) = true
  f_is_step : L2.Fun C.K "is_step" "is_step" (top 18) (fa 15) (fd 15)
  b_is_step : L2.Binds C.K (fd 15) ["value"] []
  g_check_step : mg "check_step" = some (.ref (fa 16))
  k_check_step : PySem.W.keepIn C.K (.ref (fa 16)) = true
  f_check_step : L2.Fun C.K "check_step" "check_step" (top 19) (fa 16) (fd 16)
  b_check_step : L2.Binds C.K (fd 16) ["step"] []
  g_servers_of : mg "servers_of" = some (.ref (fa 17))
  k_servers_of : PySem.W.keepIn C.K (.ref (fa 17)) = true
  f_servers_of : L2.Fun C.K "servers_of" "servers_of" (top 20) (fa 17) (fd 17)
  b_servers_of : L2.Binds C.K (fd 17) ["step"] []
  g_named_by : mg "named_by" = some (.ref (fa 18))
  k_named_by : PySem.W.keepIn C.K (.ref (fa 18)) = true
  f_named_by : L2.Fun C.K "named_by" "named_by" (top 25) (fa 18) (fd 18)
  b_named_by : L2.Binds C.K (fd 18) ["steps"] []
  k_World_init : PySem.W.keepIn C.K (.ref (fa 19)) = true
  f_World_init : L2.Fun C.K "__init__" "World.__init__" (inClass (top 28) 0) (fa 19) (fd 19)
  sb_World_init : StB (fd 19) ["self"] "begin"
  k_World_of : PySem.W.keepIn C.K (.ref (fa 20)) = true
  f_World_of : L2.Fun C.K "of" "World.of" (inClass (top 28) 18) (fa 20) (fd 20)
  b_World_of : L2.Binds C.K (fd 20) ["begin"] []
  sm_World_of : SMet C.K (C.ca 5) "of" (fa 20)
  k_World_all_steps : PySem.W.keepIn C.K (.ref (fa 21)) = true
  f_World_all_steps : L2.Fun C.K "all_steps" "World.all_steps" (inClass (top 28) 2) (fa 21) (fd 21)
  b_World_all_steps : L2.Binds C.K (fd 21) ["self"] []
  me_World_all_steps : L2.Meth C.K (C.ca 5) "all_steps" (fa 21)
  k_World_servers : PySem.W.keepIn C.K (.ref (fa 22)) = true
  f_World_servers : L2.Fun C.K "servers" "World.servers" (inClass (top 28) 12) (fa 22) (fd 22)
  b_World_servers : L2.Binds C.K (fd 22) ["self"] []
  me_World_servers : L2.Meth C.K (C.ca 5) "servers" (fa 22)
  g__law_draw : mg "_law_draw" = some (.ref (fa 23))
  k__law_draw : PySem.W.keepIn C.K (.ref (fa 23)) = true
  f__law_draw : L2.Fun C.K "_law_draw" "_law_draw" (top 31) (fa 23) (fd 23)
  b__law_draw : L2.Binds C.K (fd 23) ["_law_stream_here", "_law_count"] []
  g__law_choose : mg "_law_choose" = some (.ref (fa 24))
  k__law_choose : PySem.W.keepIn C.K (.ref (fa 24)) = true
  f__law_choose : L2.Fun C.K "_law_choose" "_law_choose" (top 32) (fa 24) (fd 24)
  b__law_choose : L2.Binds C.K (fd 24) ["_law_stream_here", "_law_items"] []
  g__law_stream : mg "_law_stream" = some (.ref (fa 25))
  k__law_stream : PySem.W.keepIn C.K (.ref (fa 25)) = true
  f__law_stream : L2.Fun C.K "_law_stream" "_law_stream" (top 30) (fa 25) (fd 25)
  b__law_stream : L2.Binds C.K (fd 25) ["_law_script", "_law_k"] []
  g_ready : mg "ready" = some (.ref (fa 26))
  k_ready : PySem.W.keepIn C.K (.ref (fa 26)) = true
  f_ready : L2.Fun C.K "ready" "ready" (top 21) (fa 26) (fd 26)
  kc_ready_value_time : KBD C (fd 26) ["server", "servers", "value", "time", "answer_time"] 2 ["value", "time"] (fun ds zs => ds ++ (zs ++ [.non]))
  k_World_of_one : PySem.W.keepIn C.K (.ref (fa 27)) = true
  f_World_of_one : L2.Fun C.K "of_one" "World.of_one" (inClass (top 28) 19) (fa 27) (fd 27)
  kc_World_of_one_time : KBD C (fd 27) ["server", "value", "time"] 2 ["time"] (fun ds zs => ds ++ zs)
  sm_World_of_one : SMet C.K (C.ca 5) "of_one" (fa 27)
  g__law_told : mg "_law_told" = some (.ref (fa 28))
  k__law_told : PySem.W.keepIn C.K (.ref (fa 28)) = true
  f__law_told : L2.Fun C.K "_law_told" "_law_told" (top 34) (fa 28) (fd 28)
  b__law_told : L2.Binds C.K (fd 28) ["_law_name", "_law_answer", "_law_number"] []
  g__law_words : mg "_law_words" = some (.ref (fa 29))
  k__law_words : PySem.W.keepIn C.K (.ref (fa 29)) = true
  f__law_words : L2.Fun C.K "_law_words" "_law_words" (top 33) (fa 29) (fd 29)
  b__law_words : L2.Binds C.K (fd 29) ["_law_stream_here", "_law_count"] []
  g_law : mg "law" = some (.ref (fa 30))
  k_law : PySem.W.keepIn C.K (.ref (fa 30)) = true
  f_law : L2.Fun C.K "law" "law" (top 35) (fa 30) (fd 30)
  b_law : L2.Binds C.K (fd 30) ["_law_script"] []
  cl_Told : L2.Cls C.K (C.ca 4)
  g_Told : mg "Told" = some (.ref (C.ca 4))
  mk_Told : L2.Mk C.K (C.ca 4) (fa 0)
  cl_World : L2.Cls C.K (C.ca 5)
  g_World : mg "World" = some (.ref (C.ca 5))
  mk_World : L2.Mk C.K (C.ca 5) (fa 19)
  sub_World : SubT C.K C (.ref (C.ca 5)) sub_World
  no_World : ∀ a : Ty0, PySem.W.kitOne C.K (.type a.name) (.ref (C.ca 5)) = some false
  q_World : PySem.W.findIn C.K (.ref (C.ca 5)) "__eq__" = some (some (.ref (fa 9))) ∧ PySem.W.isFn C.K (.ref (fa 9)) = true
  nf_World : NotF C.K C 5 (fun j => decide (j = 5))
  fl_answerings : FldT C.K C fl_answerings "answerings"
  fl_first : FldT C.K C fl_first "first"
  fl_gone : FldT C.K C fl_gone "gone"
  fl_parent : FldT C.K C fl_parent "parent"
  fl_running : FldT C.K C fl_running "running"
  fl_said : FldT C.K C fl_said "said"
  fl_tellings : FldT C.K C fl_tellings "tellings"
  g_InvalidStep : mg "InvalidStep" = some (.ref (C.ca 1))
  e_InvalidStep : PySem.ErrX.ErrTxt PySem.Challenge.pw_movednames_k09_worlds_of_one_server C.K mg "InvalidStep" "step" (C.ca 1) (fi 1)
  e_InvalidMoment : PySem.ErrX.ErrTxt PySem.Challenge.pw_movednames_k09_worlds_of_one_server C.K mg "InvalidMoment" "value" (C.ca 2) (fi 2)
  e_InvalidWorld : PySem.ErrX.ErrTxt PySem.Challenge.pw_movednames_k09_worlds_of_one_server C.K mg "InvalidWorld" "value" (C.ca 3) (fi 3)
  mx_InvalidStep : Mt C.K C 1 mt_InvalidStep
  xf_InvalidStep : ∀ {j : Nat}, mt_InvalidStep j = some true → L2.XfC C.K (C.ca j)
  xn_InvalidStep : ∀ {j : Nat}, mt_InvalidStep j = some true → PySem.W.findIn C.K (.ref (C.ca j)) "step" = some none
  xi_InvalidStep : ∀ {j : Nat}, mt_InvalidStep j = some true → PySem.ErrX.ErrIs C.K (C.ca j)
section
variable {w : World} {C : Ct} {mg : Str → Option Value} {base : Heap} {fa fi : Nat → Addr} {fd : Nat → FuncData}
theorem sc_Told_init : L2.FnScope ["self"] ["self"] (defScope (inClass (top 27) 0)) := ⟨rfl, rfl, rfl, by decide +kernel, rfl, by decide +kernel, by decide +kernel⟩
theorem ok_Told_init (T : Txt w C mg fa fi fd) : FnG PySem.Challenge.pw_movednames_k09_worlds_of_one_server w C mg base 2 (fa 0) (fd 0) ["self"] m_Told_init := by
  have sc := sc_Told_init
  refine fn_mirrorL (bd := ?bd) (sco := ?sco) (k := 1) (b := b_Told_init) T.f_Told_init sc rfl ?hb ?hs ?body
  (case hb => conv => lhs; whnf)
  (case hs => conv => lhs; whnf)
  intro cdv A outer s c E hr
  exact (ss_cons (s1_setf T.fl_parent (se_var 0) se_non) (ss_cons (s1_setf T.fl_tellings (se_var 0) (se_loc sn_dct0)) (ss_cons (s1_setf T.fl_answerings (se_var 0) (se_loc sn_dct0)) (ss_cons (s1_setf T.fl_running (se_var 0) (se_loc sn_dct0)) (ss_one (s1_setf T.fl_gone (se_var 0) (se_loc sn_dct0)))))))
theorem sc_Told_say : L2.FnScope ["self", "step", "word", "name"] ["self", "step"] (defScope (inClass (top 27) 1)) := ⟨rfl, rfl, rfl, by decide +kernel, rfl, by decide +kernel, by decide +kernel⟩
theorem ok_Told_say (T : Txt w C mg fa fi fd) : FnG PySem.Challenge.pw_movednames_k09_worlds_of_one_server w C mg base 2 (fa 1) (fd 1) ["self", "step"] m_Told_say := by
  have sc := sc_Told_say
  refine fn_mirrorL (bd := ?bd) (sco := ?sco) (k := 1) (b := b_Told_say) T.f_Told_say sc rfl ?hb ?hs ?body
  (case hb => conv => lhs; whnf)
  (case hs => conv => lhs; whnf)
  intro cdv A outer s c E hr
  exact (ss_cons (s1_par 2 3 (sa_cons (se_ix (se_var 1) se_int) (sa_cons (se_ix (se_var 1) se_int) sa_nil)) sc.nd (by rfl)) (ss_one (s1_if (st_cmp (op_eqU hr.units) s_eqS (se_var 2) se_str) (ss_one (s1_setf T.fl_parent (se_var 0) (se_tup (sa_cons (se_ix (se_var 1) se_int) (sa_cons (se_ix (se_var 1) se_int) sa_nil))))) (ss_one (s1_if (st_cmp (op_eqU hr.units) s_eqS (se_var 2) se_str) (ss_one (s1_dput hr.units (se_fld T.fl_tellings (se_var 0)) (se_var 3) (se_tup (sa_cons (se_ix (se_var 1) se_int) (sa_cons (se_ix (se_var 1) se_int) sa_nil))))) (ss_one (s1_if (st_cmp (op_eqU hr.units) s_eqS (se_var 2) se_str) (ss_one (s1_dput hr.units (se_fld T.fl_answerings (se_var 0)) (se_var 3) (se_tup (sa_cons (se_ix (se_var 1) se_int) (sa_cons (se_ix (se_var 1) se_int) sa_nil))))) (ss_one (s1_if (st_cmp op_inU s_in (se_var 2) (se_tup (sa_cons se_str (sa_cons se_str sa_nil)))) (ss_one (s1_dput hr.units (se_fld T.fl_running (se_var 0)) (se_var 3) (se_cmp (op_eqU hr.units) s_eqS (se_var 2) se_str))) (ss_one (s1_dput hr.units (se_fld T.fl_gone (se_var 0)) (se_var 3) (se_cmp (op_eqU hr.units) s_eqS (se_var 2) se_str))))))))))))
theorem sc_Told_is_ready : L2.FnScope ["self", "server"] ["self", "server"] (defScope (inClass (top 27) 2)) := ⟨rfl, rfl, rfl, by decide +kernel, rfl, by decide +kernel, by decide +kernel⟩
theorem ok_Told_is_ready (T : Txt w C mg fa fi fd) : FnG PySem.Challenge.pw_movednames_k09_worlds_of_one_server w C mg base 2 (fa 2) (fd 2) ["self", "server"] m_Told_is_ready := by
  have sc := sc_Told_is_ready
  refine fn_mirrorL (bd := ?bd) (sco := ?sco) (k := 1) (b := b_Told_is_ready) T.f_Told_is_ready sc rfl ?hb ?hs ?body
  (case hb => conv => lhs; whnf)
  (case hs => conv => lhs; whnf)
  intro cdv A outer s c E hr
  exact (ss_one (s1_ret (se_and (se_dget2 hr.units (se_fld T.fl_running (se_var 0)) (se_var 1) se_bl) (se_and (se_cmp (op_din hr.units) s_din (se_var 1) (se_fld T.fl_tellings (se_var 0))) (se_one (se_cmp (op_din hr.units) s_din (se_var 1) (se_fld T.fl_answerings (se_var 0))))))))
theorem sc_Told_told_rows : L2.FnScope ["self", "name", "names"] ["self"] (defScope (inClass (top 27) 3)) := ⟨rfl, rfl, rfl, by decide +kernel, rfl, by decide +kernel, by decide +kernel⟩
theorem ok_Told_told_rows (T : Txt w C mg fa fi fd) : FnG PySem.Challenge.pw_movednames_k09_worlds_of_one_server w C mg base 3 (fa 3) (fd 3) ["self"] m_Told_told_rows := by
  have sc := sc_Told_told_rows
  refine fn_mirrorL (bd := ?bd) (sco := ?sco) (k := 2) (b := b_Told_told_rows) T.f_Told_told_rows sc rfl ?hb ?hs ?body
  (case hb => conv => lhs; whnf)
  (case hs => conv => lhs; whnf)
  intro cdv A outer s c E hr
  exact (ss_cons (s1_set 2 (se_frz (sn_callB cr_sortedS (sn_sortS rfl) T.n_sorted bb_sorted (sa_cons (se_frz (sn_lock (eFld fl_running "running" (eVar 0)) (sn_compN [("name", 1)] [1] rfl (si_keys (se_fld T.fl_running (se_var 0))) sc.nd (by kernel_rfl) (fun _ _ _ _ _ => (sg_name 1 sc.nd)) (fun _ _ _ _ _ => sts_one (st_val (se_meth T.cl_Told T.me_Told_is_ready ((ok_Told_is_ready T).mono (by decide)) hr takes0 (Dfl.none T.b_Told_is_ready) rfl (se_var 0) (sa_cons (se_var 1) sa_nil)))) (fun _ _ _ _ _ => (se_callT call_strU s_str T.n_str bb_str (sa_cons (se_var 1) sa_nil)))))) sa_nil))) sc.nd) (ss_one (s1_ret (se_callT call_tuple_of (s_tuple rfl) T.n_tuple bb_tuple (sa_cons (se_frz (sn_compN [("name", 1)] [1] rfl (si_any (se_var 2)) sc.nd (by kernel_rfl) (fun _ _ _ _ _ => (sg_name 1 sc.nd)) (fun _ _ _ _ _ => sts_nil) (fun _ _ _ _ _ => (se_op op_addU s_add (se_op op_addU s_add (se_tup (sa_cons (se_var 1) sa_nil)) (se_dget hr.units (se_fld T.fl_tellings (se_var 0)) (se_var 1))) (se_dget hr.units (se_fld T.fl_answerings (se_var 0)) (se_var 1)))))) sa_nil)))))
theorem sc_in_order : L2.FnScope ["values", "value"] ["values"] (defScope (top 22)) := ⟨rfl, rfl, rfl, by decide +kernel, rfl, by decide +kernel, by decide +kernel⟩
theorem ok_in_order (T : Txt w C mg fa fi fd) : FnG PySem.Challenge.pw_movednames_k09_worlds_of_one_server w C mg base 2 (fa 4) (fd 4) ["values"] m_in_order := by
  have sc := sc_in_order
  refine fn_mirrorL (bd := ?bd) (sco := ?sco) (k := 1) (b := b_in_order) T.f_in_order sc rfl ?hb ?hs ?body
  (case hb => conv => lhs; whnf)
  (case hs => conv => lhs; whnf)
  intro cdv A outer s c E hr
  exact (ss_one (s1_ret (se_op op_addU s_add (se_op op_rep01 s_rep01 (se_tup (sa_cons se_non sa_nil)) (se_callT call_intU s_int T.n_int bb_int (sa_cons (se_cmp op_inU s_in se_non (se_var 0)) sa_nil))) (se_callT call_tuple_of (s_tuple rfl) T.n_tuple bb_tuple (sa_cons (se_frz (sn_callB cr_sortedS (sn_sortS rfl) T.n_sorted bb_sorted (sa_cons (se_frz (sn_compN [("value", 1)] [1] rfl (si_any (se_var 0)) sc.nd (by kernel_rfl) (fun _ _ _ _ _ => (sg_name 1 sc.nd)) (fun _ _ _ _ _ => sts_one (st_cmp op_notN s_isnot (se_var 1) se_non)) (fun _ _ _ _ _ => (se_callT call_strU s_str T.n_str bb_str (sa_cons (se_var 1) sa_nil))))) sa_nil))) sa_nil)))))
theorem sc_Told_seen : L2.FnScope ["self", "value", "is_gone"] ["self"] (defScope (inClass (top 27) 4)) := ⟨rfl, rfl, rfl, by decide +kernel, rfl, by decide +kernel, by decide +kernel⟩
theorem ok_Told_seen (T : Txt w C mg fa fi fd) : FnG PySem.Challenge.pw_movednames_k09_worlds_of_one_server w C mg base 4 (fa 5) (fd 5) ["self"] m_Told_seen := by
  have sc := sc_Told_seen
  refine fn_mirrorL (bd := ?bd) (sco := ?sco) (k := 3) (b := b_Told_seen) T.f_Told_seen sc rfl ?hb ?hs ?body
  (case hb => conv => lhs; whnf)
  (case hs => conv => lhs; whnf)
  intro cdv A outer s c E hr
  exact (ss_one (s1_ret (se_tup (sa_cons (se_fld T.fl_parent (se_var 0)) (sa_cons (se_meth0 T.cl_Told T.me_Told_told_rows ((ok_Told_told_rows T).mono (by decide)) hr (takes_of rfl rfl rfl rfl) (Dfl.none T.b_Told_told_rows) rfl (se_var 0)) (sa_cons (se_callN ((ok_in_order T).mono (by decide)) hr (takes_of rfl rfl rfl rfl) T.g_in_order T.k_in_order (Dfl.none T.b_in_order) rfl (sa_cons (se_frz (sn_lock (eFld fl_gone "gone" (eVar 0)) (sn_compN [("value", 1), ("is_gone", 2)] [1, 2] rfl (si_items (se_fld T.fl_gone (se_var 0))) sc.nd (by kernel_rfl) (fun _ _ _ _ _ => (sg_tup rfl (sgs_cons (sg_name 1 sc.nd) (sgs_cons (sg_name 2 sc.nd) sgs_nil)))) (fun _ _ _ _ _ => sts_one (st_val (se_var 2))) (fun _ _ _ _ _ => (se_var 1))))) sa_nil)) sa_nil))))))
theorem sc_World_moments : L2.FnScope ["self", "moment"] ["self"] (defScope (inClass (top 28) 10)) := ⟨rfl, rfl, rfl, by decide +kernel, rfl, by decide +kernel, by decide +kernel⟩
theorem ok_World_moments (T : Txt w C mg fa fi fd) : FnG PySem.Challenge.pw_movednames_k09_worlds_of_one_server w C mg base 2 (fa 6) (fd 6) ["self"] m_World_moments := by
  have sc := sc_World_moments
  refine fn_mirrorL (bd := ?bd) (sco := ?sco) (k := 1) (b := b_World_moments) T.f_World_moments sc rfl ?hb ?hs ?body
  (case hb => conv => lhs; whnf)
  (case hs => conv => lhs; whnf)
  intro cdv A outer s c E hr
  exact (ss_one (s1_ret (se_frz (sn_callB cr_sortedU (sn_sortU rfl) T.n_sorted bb_sorted (sa_cons (se_frz (sn_lock (eFld fl_said "said" (eVar 0)) (sn_compN [("moment", 1)] [1] rfl (si_keys (se_fld T.fl_said (se_var 0))) sc.nd (by kernel_rfl) (fun _ _ _ _ _ => (sg_name 1 sc.nd)) (fun _ _ _ _ _ => sts_nil) (fun _ _ _ _ _ => (se_callT call_intU s_int T.n_int bb_int (sa_cons (se_var 1) sa_nil)))))) sa_nil)))))
theorem sc_is_integer : L2.FnScope ["value"] ["value"] (defScope (top 11)) := ⟨rfl, rfl, rfl, by decide +kernel, rfl, by decide +kernel, by decide +kernel⟩
theorem ok_is_integer (T : Txt w C mg fa fi fd) : FnG PySem.Challenge.pw_movednames_k09_worlds_of_one_server w C mg base 2 (fa 7) (fd 7) ["value"] m_is_integer := by
  have sc := sc_is_integer
  refine fn_mirrorL (bd := ?bd) (sco := ?sco) (k := 1) (b := b_is_integer) T.f_is_integer sc rfl ?hb ?hs ?body
  (case hb => conv => lhs; whnf)
  (case hs => conv => lhs; whnf)
  intro cdv A outer s c E hr
  exact (ss_one (s1_ret (se_and (se_isT .int T.n_isinstance T.n_int SubT.no (se_var 0) rfl bb_int) (se_one (se_not (se_isT .bl T.n_isinstance T.n_bool SubT.no (se_var 0) rfl bb_bool))))))
theorem sc_World_call : L2.FnScope ["self", "moment", "told", "step", "other"] ["self", "moment"] (defScope (inClass (top 28) 13)) := ⟨rfl, rfl, rfl, by decide +kernel, rfl, by decide +kernel, by decide +kernel⟩
theorem ok_World_call (T : Txt w C mg fa fi fd) : FnG PySem.Challenge.pw_movednames_k09_worlds_of_one_server w C mg base 5 (fa 8) (fd 8) ["self", "moment"] m_World_call := by
  have sc := sc_World_call
  refine fn_mirrorL (bd := ?bd) (sco := ?sco) (k := 4) (b := b_World_call) T.f_World_call sc rfl ?hb ?hs ?body
  (case hb => conv => lhs; whnf)
  (case hs => conv => lhs; whnf)
  intro cdv A outer s c E hr
  exact (ss_cons (s1_if (st_not (st_val (se_callN ((ok_is_integer T).mono (by decide)) hr (takes_of rfl rfl rfl rfl) T.g_is_integer T.k_is_integer (Dfl.none T.b_is_integer) rfl (sa_cons (se_var 1) sa_nil)))) (ss_one (s1_raise T.e_InvalidMoment hr (takes_of rfl rfl rfl rfl) (se_var 1))) ss_nil) (ss_cons (s1_set 2 (se_make0 T.mk_Told ((ok_Told_init T).mono (by decide)) hr (takes_of rfl rfl rfl rfl) T.g_Told (Dfl.none T.b_Told_init) rfl) sc.nd) (ss_cons (s1_for (si_any (se_fld T.fl_first (se_var 0))) (sg_name 3 sc.nd) (ss_one (s1_expr (se_meth T.cl_Told T.me_Told_say ((ok_Told_say T).mono (by decide)) hr (takes_of rfl rfl rfl rfl) (Dfl.none T.b_Told_say) rfl (se_var 2) (sa_cons (se_var 3) sa_nil)))) (passes_of rfl)) (ss_cons (s1_for (si_any (se_meth0 T.cl_World T.me_World_moments ((ok_World_moments T).mono (by decide)) hr (takes_of rfl rfl rfl rfl) (Dfl.none T.b_World_moments) rfl (se_var 0))) (sg_name 4 sc.nd) (ss_one (s1_if (st_cmp op_le s_le (se_var 4) (se_var 1)) (ss_one (s1_for (si_any (se_dget hr.units (se_fld T.fl_said (se_var 0)) (se_var 4))) (sg_name 3 sc.nd) (ss_one (s1_expr (se_meth T.cl_Told T.me_Told_say ((ok_Told_say T).mono (by decide)) hr (takes_of rfl rfl rfl rfl) (Dfl.none T.b_Told_say) rfl (se_var 2) (sa_cons (se_var 3) sa_nil)))) (passes_of rfl))) ss_nil)) (passes_of rfl)) (ss_one (s1_ret (se_meth0 T.cl_Told T.me_Told_seen ((ok_Told_seen T).mono (by decide)) hr (takes_of rfl rfl rfl rfl) (Dfl.none T.b_Told_seen) rfl (se_var 2))))))))
theorem sc_World_eq : L2.FnScope ["self", "other"] ["self", "other"] (defScope (inClass (top 28) 17)) := ⟨rfl, rfl, rfl, by decide +kernel, rfl, by decide +kernel, by decide +kernel⟩
theorem ok_World_eq (T : Txt w C mg fa fi fd) : FnG PySem.Challenge.pw_movednames_k09_worlds_of_one_server w C mg base 2 (fa 9) (fd 9) ["self", "other"] m_World_eq := by
  have sc := sc_World_eq
  refine fn_mirrorL (bd := ?bd) (sco := ?sco) (k := 1) (b := b_World_eq) T.f_World_eq sc rfl ?hb ?hs ?body
  (case hb => conv => lhs; whnf)
  (case hs => conv => lhs; whnf)
  intro cdv A outer s c E hr
  exact (ss_one (s1_ret (se_and (se_isC T.n_isinstance T.g_World T.sub_World T.no_World (se_var 1)) (se_and (se_cmp (op_eqU hr.units) s_eqS (se_fld T.fl_first (se_var 0)) (se_fld T.fl_first (se_var 1))) (se_one (se_cmp (op_eqDD rfl hr.units65) s_eqDD (se_fld T.fl_said (se_var 0)) (se_fld T.fl_said (se_var 1))))))))
theorem sc_is_word : L2.FnScope ["value", "letter"] ["value"] (defScope (top 13)) := ⟨rfl, rfl, rfl, by decide +kernel, rfl, by decide +kernel, by decide +kernel⟩
theorem ok_is_word (T : Txt w C mg fa fi fd) : FnG PySem.Challenge.pw_movednames_k09_worlds_of_one_server w C mg base 2 (fa 10) (fd 10) ["value"] m_is_word := by
  have sc := sc_is_word
  refine fn_mirrorL (bd := ?bd) (sco := ?sco) (k := 1) (b := b_is_word) T.f_is_word sc rfl ?hb ?hs ?body
  (case hb => conv => lhs; whnf)
  (case hs => conv => lhs; whnf)
  intro cdv A outer s c E hr
  exact (ss_cons (s1_if (st_sw (sw_or (st_not (st_val (se_isT .str T.n_isinstance T.n_str SubT.no (se_var 0) rfl bb_str))) (sw_or1 (st_not (st_chain op_le s_le op_le s_le se_int (se_callB call_lenU s_len T.n_len bb_len (sa_cons (se_var 0) sa_nil)) (se_gc T.c_MOST_LETTERS)))))) (ss_one (s1_ret se_bl)) ss_nil) (ss_one (s1_ret (se_callB (cr_all rfl) (s_all rfl) T.n_all bb_all (sa_cons (se_frz (sn_compN [("letter", 1)] [1] rfl (si_any (se_var 0)) sc.nd (by kernel_rfl) (fun _ _ _ _ _ => (sg_name 1 sc.nd)) (fun _ _ _ _ _ => sts_nil) (fun _ _ _ _ _ => (se_cmp op_inU s_in (se_var 1) (se_gc T.c_LETTERS))))) sa_nil)))))
theorem sc_is_servers : L2.FnScope ["value", "name", "at"] ["value"] (defScope (top 17)) := ⟨rfl, rfl, rfl, by decide +kernel, rfl, by decide +kernel, by decide +kernel⟩
theorem ok_is_servers (T : Txt w C mg fa fi fd) : FnG PySem.Challenge.pw_movednames_k09_worlds_of_one_server w C mg base 3 (fa 11) (fd 11) ["value"] m_is_servers := by
  have sc := sc_is_servers
  refine fn_mirrorL (bd := ?bd) (sco := ?sco) (k := 2) (b := b_is_servers) T.f_is_servers sc rfl ?hb ?hs ?body
  (case hb => conv => lhs; whnf)
  (case hs => conv => lhs; whnf)
  intro cdv A outer s c E hr
  exact (ss_cons (s1_if (st_sw (sw_or (st_not (st_val (se_isT .tup T.n_isinstance T.n_tuple SubT.no (se_var 0) rfl bb_tuple))) (sw_or1 (st_not (st_chain op_le s_le op_le s_le se_int (se_callB call_lenU s_len T.n_len bb_len (sa_cons (se_var 0) sa_nil)) (se_gc T.c_MOST_SERVERS)))))) (ss_one (s1_ret se_bl)) ss_nil) (ss_cons (s1_if (st_not (st_val (se_callB (cr_all rfl) (s_all rfl) T.n_all bb_all (sa_cons (se_frz (sn_compN [("name", 1)] [1] rfl (si_any (se_var 0)) sc.nd (by kernel_rfl) (fun _ _ _ _ _ => (sg_name 1 sc.nd)) (fun _ _ _ _ _ => sts_nil) (fun _ _ _ _ _ => (se_callN ((ok_is_word T).mono (by decide)) hr takes0 T.g_is_word T.k_is_word (Dfl.none T.b_is_word) rfl (sa_cons (se_var 1) sa_nil))))) sa_nil)))) (ss_one (s1_ret se_bl)) ss_nil) (ss_one (s1_ret (se_callB (cr_all rfl) (s_all rfl) T.n_all bb_all (sa_cons (se_frz (sn_compN [("at", 2)] [2] rfl (si_range1 T.n_range (se_op op_sub s_sub (se_callB call_lenU s_len T.n_len bb_len (sa_cons (se_var 0) sa_nil)) se_int)) sc.nd (by kernel_rfl) (fun _ _ _ _ _ => (sg_name 2 sc.nd)) (fun _ _ _ _ _ => sts_nil) (fun _ _ _ _ _ => (se_cmp op_ltU s_lt (se_ix (se_var 0) (se_var 2)) (se_ix (se_var 0) (se_op op_addU s_add (se_var 2) se_int)))))) sa_nil))))))
theorem sc_is_between : L2.FnScope ["value", "least", "most"] ["value", "least", "most"] (defScope (top 12)) := ⟨rfl, rfl, rfl, by decide +kernel, rfl, by decide +kernel, by decide +kernel⟩
theorem ok_is_between (T : Txt w C mg fa fi fd) : FnG PySem.Challenge.pw_movednames_k09_worlds_of_one_server w C mg base 3 (fa 12) (fd 12) ["value", "least", "most"] m_is_between := by
  have sc := sc_is_between
  refine fn_mirrorL (bd := ?bd) (sco := ?sco) (k := 2) (b := b_is_between) T.f_is_between sc rfl ?hb ?hs ?body
  (case hb => conv => lhs; whnf)
  (case hs => conv => lhs; whnf)
  intro cdv A outer s c E hr
  exact (ss_one (s1_ret (se_and (se_callN ((ok_is_integer T).mono (by decide)) hr (takes_of rfl rfl rfl rfl) T.g_is_integer T.k_is_integer (Dfl.none T.b_is_integer) rfl (sa_cons (se_var 0) sa_nil)) (se_one (se_chain op_le s_le op_le s_le (se_var 1) (se_var 0) (se_var 2))))))
theorem sc_is_time : L2.FnScope ["value"] ["value"] (defScope (top 14)) := ⟨rfl, rfl, rfl, by decide +kernel, rfl, by decide +kernel, by decide +kernel⟩
theorem ok_is_time (T : Txt w C mg fa fi fd) : FnG PySem.Challenge.pw_movednames_k09_worlds_of_one_server w C mg base 4 (fa 13) (fd 13) ["value"] m_is_time := by
  have sc := sc_is_time
  refine fn_mirrorL (bd := ?bd) (sco := ?sco) (k := 3) (b := b_is_time) T.f_is_time sc rfl ?hb ?hs ?body
  (case hb => conv => lhs; whnf)
  (case hs => conv => lhs; whnf)
  intro cdv A outer s c E hr
  exact (ss_one (s1_ret (se_callN ((ok_is_between T).mono (by decide)) hr (takes_of rfl rfl rfl rfl) T.g_is_between T.k_is_between (Dfl.none T.b_is_between) rfl (sa_cons (se_var 0) (sa_cons se_int (sa_cons (se_gc T.c_MOST_TIME) sa_nil))))))
theorem sc_is_value : L2.FnScope ["value"] ["value"] (defScope (top 16)) := ⟨rfl, rfl, rfl, by decide +kernel, rfl, by decide +kernel, by decide +kernel⟩
theorem ok_is_value (T : Txt w C mg fa fi fd) : FnG PySem.Challenge.pw_movednames_k09_worlds_of_one_server w C mg base 3 (fa 14) (fd 14) ["value"] m_is_value := by
  have sc := sc_is_value
  refine fn_mirrorL (bd := ?bd) (sco := ?sco) (k := 2) (b := b_is_value) T.f_is_value sc rfl ?hb ?hs ?body
  (case hb => conv => lhs; whnf)
  (case hs => conv => lhs; whnf)
  intro cdv A outer s c E hr
  exact (ss_one (s1_ret (se_or (se_cmp op_isN s_is (se_var 0) se_non) (se_one (se_callN ((ok_is_word T).mono (by decide)) hr (takes_of rfl rfl rfl rfl) T.g_is_word T.k_is_word (Dfl.none T.b_is_word) rfl (sa_cons (se_var 0) sa_nil))))))
theorem sc_is_step : L2.FnScope ["value", "word"] ["value"] (defScope (top 18)) := ⟨rfl, rfl, rfl, by decide +kernel, rfl, by decide +kernel, by decide +kernel⟩
theorem ok_is_step (T : Txt w C mg fa fi fd) : FnG PySem.Challenge.pw_movednames_k09_worlds_of_one_server w C mg base 5 (fa 15) (fd 15) ["value"] m_is_step := by
  have sc := sc_is_step
  refine fn_mirrorL (bd := ?bd) (sco := ?sco) (k := 4) (b := b_is_step) T.f_is_step sc rfl ?hb ?hs ?body
  (case hb => conv => lhs; whnf)
  (case hs => conv => lhs; whnf)
  intro cdv A outer s c E hr
  exact (ss_cons (s1_if (st_sw (sw_or (st_not (st_val (se_isT .tup T.n_isinstance T.n_tuple SubT.no (se_var 0) rfl bb_tuple))) (sw_or (st_cmp op_ltU s_lt (se_callB call_lenU s_len T.n_len bb_len (sa_cons (se_var 0) sa_nil)) se_int) (sw_or1 (st_not (st_val (se_isT .str T.n_isinstance T.n_str SubT.no (se_ix (se_var 0) se_int) rfl bb_str))))))) (ss_one (s1_ret se_bl)) ss_nil) (ss_cons (s1_set 1 (se_ix (se_var 0) se_int) sc.nd) (ss_cons (s1_if (st_cmp (op_eqU hr.units) s_eqS (se_var 1) se_str) (ss_one (s1_ret (se_and (se_cmp (op_eqU hr.units) s_eqS (se_callB call_lenU s_len T.n_len bb_len (sa_cons (se_var 0) sa_nil)) se_int) (se_and (se_callN ((ok_is_servers T).mono (by decide)) hr (takes_of rfl rfl rfl rfl) T.g_is_servers T.k_is_servers (Dfl.none T.b_is_servers) rfl (sa_cons (se_ix (se_var 0) se_int) sa_nil)) (se_one (se_callN ((ok_is_time T).mono (by decide)) hr (takes_of rfl rfl rfl rfl) T.g_is_time T.k_is_time (Dfl.none T.b_is_time) rfl (sa_cons (se_ix (se_var 0) se_int) sa_nil))))))) ss_nil) (ss_cons (s1_if (st_cmp (op_eqU hr.units) s_eqS (se_var 1) se_str) (ss_one (s1_ret (se_and (se_cmp (op_eqU hr.units) s_eqS (se_callB call_lenU s_len T.n_len bb_len (sa_cons (se_var 0) sa_nil)) se_int) (se_and (se_callN ((ok_is_word T).mono (by decide)) hr (takes_of rfl rfl rfl rfl) T.g_is_word T.k_is_word (Dfl.none T.b_is_word) rfl (sa_cons (se_ix (se_var 0) se_int) sa_nil)) (se_and (se_callN ((ok_is_servers T).mono (by decide)) hr (takes_of rfl rfl rfl rfl) T.g_is_servers T.k_is_servers (Dfl.none T.b_is_servers) rfl (sa_cons (se_ix (se_var 0) se_int) sa_nil)) (se_one (se_callN ((ok_is_time T).mono (by decide)) hr (takes_of rfl rfl rfl rfl) T.g_is_time T.k_is_time (Dfl.none T.b_is_time) rfl (sa_cons (se_ix (se_var 0) se_int) sa_nil)))))))) ss_nil) (ss_cons (s1_if (st_cmp (op_eqU hr.units) s_eqS (se_var 1) se_str) (ss_one (s1_ret (se_and (se_cmp (op_eqU hr.units) s_eqS (se_callB call_lenU s_len T.n_len bb_len (sa_cons (se_var 0) sa_nil)) se_int) (se_and (se_callN ((ok_is_word T).mono (by decide)) hr (takes_of rfl rfl rfl rfl) T.g_is_word T.k_is_word (Dfl.none T.b_is_word) rfl (sa_cons (se_ix (se_var 0) se_int) sa_nil)) (se_and (se_callN ((ok_is_value T).mono (by decide)) hr (takes_of rfl rfl rfl rfl) T.g_is_value T.k_is_value (Dfl.none T.b_is_value) rfl (sa_cons (se_ix (se_var 0) se_int) sa_nil)) (se_one (se_callN ((ok_is_time T).mono (by decide)) hr (takes_of rfl rfl rfl rfl) T.g_is_time T.k_is_time (Dfl.none T.b_is_time) rfl (sa_cons (se_ix (se_var 0) se_int) sa_nil)))))))) ss_nil) (ss_cons (s1_if (st_cmp op_inU s_in (se_var 1) (se_tup (sa_cons se_str (sa_cons se_str sa_nil)))) (ss_one (s1_ret (se_and (se_cmp (op_eqU hr.units) s_eqS (se_callB call_lenU s_len T.n_len bb_len (sa_cons (se_var 0) sa_nil)) se_int) (se_one (se_callN ((ok_is_word T).mono (by decide)) hr (takes_of rfl rfl rfl rfl) T.g_is_word T.k_is_word (Dfl.none T.b_is_word) rfl (sa_cons (se_ix (se_var 0) se_int) sa_nil)))))) ss_nil) (ss_one (s1_ret (se_and (se_cmp op_inU s_in (se_var 1) (se_tup (sa_cons se_str (sa_cons se_str sa_nil)))) (se_and (se_cmp (op_eqU hr.units) s_eqS (se_callB call_lenU s_len T.n_len bb_len (sa_cons (se_var 0) sa_nil)) se_int) (se_one (se_callN ((ok_is_value T).mono (by decide)) hr (takes_of rfl rfl rfl rfl) T.g_is_value T.k_is_value (Dfl.none T.b_is_value) rfl (sa_cons (se_ix (se_var 0) se_int) sa_nil)))))))))))))
theorem sc_check_step : L2.FnScope ["step"] ["step"] (defScope (top 19)) := ⟨rfl, rfl, rfl, by decide +kernel, rfl, by decide +kernel, by decide +kernel⟩
theorem ok_check_step (T : Txt w C mg fa fi fd) : FnG PySem.Challenge.pw_movednames_k09_worlds_of_one_server w C mg base 6 (fa 16) (fd 16) ["step"] m_check_step := by
  have sc := sc_check_step
  refine fn_mirrorL (bd := ?bd) (sco := ?sco) (k := 5) (b := b_check_step) T.f_check_step sc rfl ?hb ?hs ?body
  (case hb => conv => lhs; whnf)
  (case hs => conv => lhs; whnf)
  intro cdv A outer s c E hr
  exact (ss_one (s1_if (st_not (st_val (se_callN ((ok_is_step T).mono (by decide)) hr (takes_of rfl rfl rfl rfl) T.g_is_step T.k_is_step (Dfl.none T.b_is_step) rfl (sa_cons (se_var 0) sa_nil)))) (ss_one (s1_raise T.e_InvalidStep hr (takes_of rfl rfl rfl rfl) (se_var 0))) ss_nil))
theorem sc_servers_of : L2.FnScope ["step", "named", "name"] ["step"] (defScope (top 20)) := ⟨rfl, rfl, rfl, by decide +kernel, rfl, by decide +kernel, by decide +kernel⟩
theorem ok_servers_of (T : Txt w C mg fa fi fd) : FnG PySem.Challenge.pw_movednames_k09_worlds_of_one_server w C mg base 7 (fa 17) (fd 17) ["step"] m_servers_of := by
  have sc := sc_servers_of
  refine fn_mirrorL (bd := ?bd) (sco := ?sco) (k := 6) (b := b_servers_of) T.f_servers_of sc rfl ?hb ?hs ?body
  (case hb => conv => lhs; whnf)
  (case hs => conv => lhs; whnf)
  intro cdv A outer s c E hr
  exact (ss_cons (s1_expr (se_callN ((ok_check_step T).mono (by decide)) hr (takes_of rfl rfl rfl rfl) T.g_check_step T.k_check_step (Dfl.none T.b_check_step) rfl (sa_cons (se_var 0) sa_nil))) (ss_cons (s1_if (st_cmp (op_eqU hr.units) s_eqS (se_ix (se_var 0) se_int) se_str) (ss_one (s1_ret (se_frz (sn_callT call_list_of (sn_listB rfl) T.n_list bb_list (sa_cons (se_ix (se_var 0) se_int) sa_nil))))) ss_nil) (ss_cons (s1_if (st_cmp op_inU s_in (se_ix (se_var 0) se_int) (se_tup (sa_cons se_str (sa_cons se_str sa_nil)))) (ss_one (s1_ret (se_frz (sn_lst sa_nil)))) ss_nil) (ss_cons (s1_set 1 (se_op op_addU s_add (se_frz (sn_lst (sa_cons (se_ix (se_var 0) se_int) sa_nil))) (se_if (st_cmp (op_eqU hr.units) s_eqS (se_ix (se_var 0) se_int) se_str) (se_frz (sn_callT call_list_of (sn_listB rfl) T.n_list bb_list (sa_cons (se_ix (se_var 0) se_int) sa_nil))) (se_frz (sn_lst sa_nil)))) sc.nd) (ss_one (s1_ret (se_frz (sn_sortSc [("name", 2)] [2] rfl T.n_sorted (si_any (se_var 1)) sc.nd (by kernel_rfl) (fun _ _ _ _ _ => (sg_name 2 sc.nd)) (fun _ _ _ _ _ => sts_nil) (fun _ _ _ _ _ => (se_callT call_strU s_str T.n_str bb_str (sa_cons (se_var 2) sa_nil)))))))))))
theorem sc_named_by : L2.FnScope ["steps", "found", "step", "name"] ["steps"] (defScope (top 25)) := ⟨rfl, rfl, rfl, by decide +kernel, rfl, by decide +kernel, by decide +kernel⟩
theorem ok_named_by (T : Txt w C mg fa fi fd) : FnG PySem.Challenge.pw_movednames_k09_worlds_of_one_server w C mg base 8 (fa 18) (fd 18) ["steps"] m_named_by := by
  have sc := sc_named_by
  refine fn_mirrorL (bd := ?bd) (sco := ?sco) (k := 7) (b := b_named_by) T.f_named_by sc rfl ?hb ?hs ?body
  (case hb => conv => lhs; whnf)
  (case hs => conv => lhs; whnf)
  intro cdv A outer s c E hr
  exact (ss_cons (s1_own 1 (sn_lst sa_nil) sc.nd) (ss_cons (s1_for (si_any (se_var 0)) (sg_name 2 sc.nd) (ss_one (s1_ext 1 (se_callN ((ok_servers_of T).mono (by decide)) hr (takes_of rfl rfl rfl rfl) T.g_servers_of T.k_servers_of (Dfl.none T.b_servers_of) rfl (sa_cons (se_var 2) sa_nil)) (hb := fun hv ha => pe_bm PySem.F.plainAttrs_list PySem.F.slot_list_extend PySem.F.type_list_extend mt_extend hv ha))) (passes_of rfl)) (ss_one (s1_frz 1 (s1_ret (se_frz (sn_sortSc [("name", 3)] [3] rfl T.n_sorted (si_any (se_var 1)) sc.nd (by kernel_rfl) (fun _ _ _ _ _ => (sg_name 3 sc.nd)) (fun _ _ _ _ _ => sts_nil) (fun _ _ _ _ _ => (se_callT call_strU s_str T.n_str bb_str (sa_cons (se_var 3) sa_nil))))))))))
theorem sc_World_init : L2.FnScope ["self", "begin", "step"] ["self", "begin"] (defScope (inClass (top 28) 0)) := ⟨rfl, rfl, rfl, by decide +kernel, rfl, by decide +kernel, by decide +kernel⟩
theorem ok_World_init (T : Txt w C mg fa fi fd) : FnS PySem.Challenge.pw_movednames_k09_worlds_of_one_server w C mg base 9 (fa 19) 1 m_World_init := by
  have sc := sc_World_init
  refine fnS_mirror (bd := ?bd) (sco := ?sco) (k := 8) (b := b_World_init) T.f_World_init sc rfl rfl T.sb_World_init ?hb ?hs ?body
  (case hb => conv => lhs; whnf)
  (case hs => conv => lhs; whnf)
  intro cdv A outer s c E hr
  exact (ss_cons (s1_for (si_any (se_var 1)) (sg_name 2 sc.nd) (ss_one (s1_expr (se_callN ((ok_check_step T).mono (by decide)) hr (takes_of rfl rfl rfl rfl) T.g_check_step T.k_check_step (Dfl.none T.b_check_step) rfl (sa_cons (se_var 2) sa_nil)))) (passes_of rfl)) (ss_cons (s1_if (st_sw (sw_or (st_not (st_val (se_callB (cr_any rfl) (s_any rfl) T.n_any bb_any (sa_cons (se_frz (sn_compN [("step", 2)] [2] rfl (si_any (se_var 1)) sc.nd (by kernel_rfl) (fun _ _ _ _ _ => (sg_name 2 sc.nd)) (fun _ _ _ _ _ => sts_nil) (fun _ _ _ _ _ => (se_cmp (op_eqU hr.units) s_eqS (se_ix (se_var 2) se_int) se_str)))) sa_nil)))) (sw_or1 (st_cmp op_gt s_gt (se_callB call_lenU s_len T.n_len bb_len (sa_cons (se_callN ((ok_named_by T).mono (by decide)) hr (takes_of rfl rfl rfl rfl) T.g_named_by T.k_named_by (Dfl.none T.b_named_by) rfl (sa_cons (se_var 1) sa_nil)) sa_nil)) (se_gc T.c_MOST_SERVERS))))) (ss_one (s1_raise T.e_InvalidWorld hr (takes_of rfl rfl rfl rfl) se_non)) ss_nil) (ss_cons (s1_setf T.fl_first (se_var 0) (se_var 1)) (ss_one (s1_setf T.fl_said (se_var 0) (se_loc sn_dct0))))))
theorem sc_World_of : L2.FnScope ["begin"] ["begin"] (defScope (inClass (top 28) 18)) := ⟨rfl, rfl, rfl, by decide +kernel, rfl, by decide +kernel, by decide +kernel⟩
theorem ok_World_of (T : Txt w C mg fa fi fd) : FnG PySem.Challenge.pw_movednames_k09_worlds_of_one_server w C mg base 11 (fa 20) (fd 20) ["begin"] m_World_of := by
  have sc := sc_World_of
  refine fn_mirrorL (bd := ?bd) (sco := ?sco) (k := 10) (b := b_World_of) T.f_World_of sc rfl ?hb ?hs ?body
  (case hb => conv => lhs; whnf)
  (case hs => conv => lhs; whnf)
  intro cdv A outer s c E hr
  exact (ss_cons (s1_if (st_not (st_val (se_isTT .lst .tup T.n_isinstance T.n_list T.n_tuple (se_var 0)))) (ss_one (s1_raise T.e_InvalidStep hr (takes_of rfl rfl rfl rfl) (se_var 0))) ss_nil) (ss_one (s1_ret (se_makeS1 T.mk_World ((ok_World_init T).mono (by decide)) hr (takes_of rfl rfl rfl rfl) T.g_World (se_var 0)))))
theorem sc_World_all_steps : L2.FnScope ["self", "found", "steps"] ["self"] (defScope (inClass (top 28) 2)) := ⟨rfl, rfl, rfl, by decide +kernel, rfl, by decide +kernel, by decide +kernel⟩
theorem ok_World_all_steps (T : Txt w C mg fa fi fd) : FnG PySem.Challenge.pw_movednames_k09_worlds_of_one_server w C mg base 2 (fa 21) (fd 21) ["self"] m_World_all_steps := by
  have sc := sc_World_all_steps
  refine fn_mirrorL (bd := ?bd) (sco := ?sco) (k := 1) (b := b_World_all_steps) T.f_World_all_steps sc rfl ?hb ?hs ?body
  (case hb => conv => lhs; whnf)
  (case hs => conv => lhs; whnf)
  intro cdv A outer s c E hr
  exact (ss_cons (s1_own 1 (sn_callT call_list_of (sn_listB rfl) T.n_list bb_list (sa_cons (se_fld T.fl_first (se_var 0)) sa_nil)) sc.nd) (ss_cons (s1_lock (eFld fl_said "said" (eVar 0)) (s1_for (si_vals (se_fld T.fl_said (se_var 0))) (sg_name 2 sc.nd) (ss_one (s1_ext 1 (se_var 2) (hb := fun hv ha => pe_bm PySem.F.plainAttrs_list PySem.F.slot_list_extend PySem.F.type_list_extend mt_extend hv ha))) (passes_of rfl))) (ss_one (s1_frz 1 (s1_ret (se_var 1))))))
theorem sc_World_servers : L2.FnScope ["self"] ["self"] (defScope (inClass (top 28) 12)) := ⟨rfl, rfl, rfl, by decide +kernel, rfl, by decide +kernel, by decide +kernel⟩
theorem ok_World_servers (T : Txt w C mg fa fi fd) : FnG PySem.Challenge.pw_movednames_k09_worlds_of_one_server w C mg base 9 (fa 22) (fd 22) ["self"] m_World_servers := by
  have sc := sc_World_servers
  refine fn_mirrorL (bd := ?bd) (sco := ?sco) (k := 8) (b := b_World_servers) T.f_World_servers sc rfl ?hb ?hs ?body
  (case hb => conv => lhs; whnf)
  (case hs => conv => lhs; whnf)
  intro cdv A outer s c E hr
  exact (ss_one (s1_ret (se_callN ((ok_named_by T).mono (by decide)) hr (takes_of rfl rfl rfl rfl) T.g_named_by T.k_named_by (Dfl.none T.b_named_by) rfl (sa_cons (se_meth0 T.cl_World T.me_World_all_steps ((ok_World_all_steps T).mono (by decide)) hr (takes_of rfl rfl rfl rfl) (Dfl.none T.b_World_all_steps) rfl (se_var 0)) sa_nil))))
theorem sc__law_draw : L2.FnScope ["_law_stream_here", "_law_count", "_law_result"] ["_law_stream_here", "_law_count"] (defScope (top 31)) := ⟨rfl, rfl, rfl, by decide +kernel, rfl, by decide +kernel, by decide +kernel⟩
theorem ok__law_draw (T : Txt w C mg fa fi fd) : FnG PySem.Challenge.pw_movednames_k09_worlds_of_one_server w C mg base 2 (fa 23) (fd 23) ["_law_stream_here", "_law_count"] m__law_draw := by
  have sc := sc__law_draw
  refine fn_mirrorL (bd := ?bd) (sco := ?sco) (k := 1) (b := b__law_draw) T.f__law_draw sc rfl ?hb ?hs ?body
  (case hb => conv => lhs; whnf)
  (case hs => conv => lhs; whnf)
  intro cdv A outer s c E hr
  exact (ss_cons (s1_if (st_cmp op_gt s_gt (se_ix (se_var 0) se_int) se_int) (ss_cons (s1_set 2 (se_op op_mod s_mod (se_callT call_intU s_int T.n_int bb_int (sa_cons (se_ix (se_var 0) se_int) sa_nil)) (se_var 1)) sc.nd) (ss_cons (s1_setix (se_var 0) se_int (se_op op_fdivW s_div (se_ix (se_var 0) se_int) (se_var 1))) (ss_one (s1_ret (se_var 2))))) ss_nil) (ss_cons (s1_setix (se_var 0) se_int (se_op op_mod s_mod (se_callT call_intU s_int T.n_int bb_int (sa_cons (se_op op_addU s_add (se_op op_mul s_mul (se_ix (se_var 0) se_int) se_int) se_int) sa_nil)) se_int)) (ss_one (s1_ret (se_op op_mod s_mod (se_callT call_intU s_int T.n_int bb_int (sa_cons (se_op op_fdivW s_div (se_op op_mod s_mod (se_callT call_intU s_int T.n_int bb_int (sa_cons (se_op op_mul s_mul (se_ix (se_var 0) se_int) (se_ix (se_var 0) se_int)) sa_nil)) se_int) se_int) sa_nil)) (se_var 1))))))
theorem sc__law_choose : L2.FnScope ["_law_stream_here", "_law_items"] ["_law_stream_here", "_law_items"] (defScope (top 32)) := ⟨rfl, rfl, rfl, by decide +kernel, rfl, by decide +kernel, by decide +kernel⟩
theorem ok__law_choose (T : Txt w C mg fa fi fd) : FnG PySem.Challenge.pw_movednames_k09_worlds_of_one_server w C mg base 3 (fa 24) (fd 24) ["_law_stream_here", "_law_items"] m__law_choose := by
  have sc := sc__law_choose
  refine fn_mirrorL (bd := ?bd) (sco := ?sco) (k := 2) (b := b__law_choose) T.f__law_choose sc rfl ?hb ?hs ?body
  (case hb => conv => lhs; whnf)
  (case hs => conv => lhs; whnf)
  intro cdv A outer s c E hr
  exact (ss_one (s1_ret (se_ix (se_var 1) (se_callN ((ok__law_draw T).mono (by decide)) hr (takes_of rfl rfl rfl rfl) T.g__law_draw T.k__law_draw (Dfl.none T.b__law_draw) rfl (sa_cons (se_var 0) (sa_cons (se_callB call_lenU s_len T.n_len bb_len (sa_cons (se_var 1) sa_nil)) sa_nil))))))
theorem sc__law_stream : L2.FnScope ["_law_script", "_law_k", "_law_cell", "_law_size", "_law_mixed"] ["_law_script", "_law_k"] (defScope (top 30)) := ⟨rfl, rfl, rfl, by decide +kernel, rfl, by decide +kernel, by decide +kernel⟩
theorem ok__law_stream (T : Txt w C mg fa fi fd) : FnG PySem.Challenge.pw_movednames_k09_worlds_of_one_server w C mg base 2 (fa 25) (fd 25) ["_law_script", "_law_k"] m__law_stream := by
  have sc := sc__law_stream
  refine fn_mirrorL (bd := ?bd) (sco := ?sco) (k := 1) (b := b__law_stream) T.f__law_stream sc rfl ?hb ?hs ?body
  (case hb => conv => lhs; whnf)
  (case hs => conv => lhs; whnf)
  intro cdv A outer s c E hr
  exact (ss_cons (s1_set 2 se_int sc.nd) (ss_cons (s1_if (st_cmp op_ltU s_lt (se_var 1) (se_callB call_lenU s_len T.n_len bb_len (sa_cons (se_var 0) sa_nil))) (ss_one (s1_set 2 (se_ix (se_var 0) (se_var 1)) sc.nd)) ss_nil) (ss_cons (s1_set 3 (se_callB (call_max2 rfl) s_max2 T.n_max bb_max (sa_cons (se_callT call_intU s_int T.n_int bb_int (sa_cons (se_var 2) sa_nil)) (sa_cons (se_callT call_intU s_int T.n_int bb_int (sa_cons (se_op op_sub s_sub (se_neg se_int) (se_var 2)) sa_nil)) sa_nil))) sc.nd) (ss_cons (s1_set 4 (se_op op_mod s_mod (se_callT call_intU s_int T.n_int bb_int (sa_cons (se_op op_mul s_mul (se_op op_addU s_add (se_op op_addU s_add (se_op op_addU s_add (se_op op_mod s_mod (se_callT call_intU s_int T.n_int bb_int (sa_cons (se_var 3) sa_nil)) se_int) (se_op op_mul s_mul (se_op op_mul s_mul se_int (se_var 1)) (se_var 1))) (se_op op_mul s_mul se_int (se_var 1))) se_int) se_int) sa_nil)) se_int) sc.nd) (ss_one (s1_ret (se_loc (sn_lst (sa_cons (se_op op_mul s_mul (se_var 3) (se_callT call_intU s_int T.n_int bb_int (sa_cons (se_cmp op_ge s_ge (se_var 3) (se_op op_pow s_pow se_int se_int)) sa_nil))) (sa_cons (se_var 4) sa_nil))))))))))
theorem sc_ready : L2.FnScope ["server", "servers", "value", "time", "answer_time", "longest", "steps", "step"] ["server", "servers", "value", "time", "answer_time"] (defScope (top 21)) := ⟨rfl, rfl, rfl, by decide +kernel, rfl, by decide +kernel, by decide +kernel⟩
theorem ok_ready (T : Txt w C mg fa fi fd) : FnG PySem.Challenge.pw_movednames_k09_worlds_of_one_server w C mg base 7 (fa 26) (fd 26) ["server", "servers", "value", "time", "answer_time"] m_ready := by
  have sc := sc_ready
  refine fn_mirrorL (bd := ?bd) (sco := ?sco) (k := 6) (b := b_ready) T.f_ready sc rfl ?hb ?hs ?body
  (case hb => conv => lhs; whnf)
  (case hs => conv => lhs; whnf)
  intro cdv A outer s c E hr
  exact (ss_cons (s1_set 5 (se_if (st_cmp op_isN s_is (se_var 4) se_non) (se_var 3) (se_var 4)) sc.nd) (ss_cons (s1_set 6 (se_frz (sn_lst (sa_cons (se_tup (sa_cons se_str (sa_cons (se_var 0) (sa_cons (se_var 1) (sa_cons (se_var 3) sa_nil))))) (sa_cons (se_tup (sa_cons se_str (sa_cons (se_var 0) (sa_cons (se_var 2) (sa_cons (se_var 5) sa_nil))))) (sa_cons (se_tup (sa_cons se_str (sa_cons (se_var 0) sa_nil))) sa_nil))))) sc.nd) (ss_cons (s1_for (si_any (se_var 6)) (sg_name 7 sc.nd) (ss_one (s1_expr (se_callN ((ok_check_step T).mono (by decide)) hr (takes_of rfl rfl rfl rfl) T.g_check_step T.k_check_step (Dfl.none T.b_check_step) rfl (sa_cons (se_var 7) sa_nil)))) (passes_of rfl)) (ss_one (s1_ret (se_var 6))))))
theorem sc_World_of_one : L2.FnScope ["server", "value", "time", "steps"] ["server", "value", "time"] (defScope (inClass (top 28) 19)) := ⟨rfl, rfl, rfl, by decide +kernel, rfl, by decide +kernel, by decide +kernel⟩
theorem ok_World_of_one (T : Txt w C mg fa fi fd) : FnG PySem.Challenge.pw_movednames_k09_worlds_of_one_server w C mg base 11 (fa 27) (fd 27) ["server", "value", "time"] m_World_of_one := by
  have sc := sc_World_of_one
  refine fn_mirrorL (bd := ?bd) (sco := ?sco) (k := 10) (b := b_World_of_one) T.f_World_of_one sc rfl ?hb ?hs ?body
  (case hb => conv => lhs; whnf)
  (case hs => conv => lhs; whnf)
  intro cdv A outer s c E hr
  exact (ss_cons (s1_set 3 (se_callK ((ok_ready T).mono (by decide)) hr (takes_of rfl rfl rfl rfl) T.g_ready T.k_ready T.kc_ready_value_time rfl (sa_cons (se_var 0) (sa_cons (se_tup (sa_cons (se_var 0) sa_nil)) sa_nil)) (sk_cons (se_var 1) (sk_cons (se_var 2) sk_nil))) sc.nd) (ss_one (s1_ret (se_makeS2 T.mk_World ((ok_World_init T).mono (by decide)) hr (takes_of rfl rfl rfl rfl) T.g_World (sa_cons (se_tup (sa_cons se_str (sa_cons (se_tup (sa_cons (se_var 0) sa_nil)) (sa_cons (se_var 2) sa_nil)))) (sa_star (se_var 3) sa_nil))))))
theorem sc__law_told : L2.FnScope ["_law_name", "_law_answer", "_law_number", "e"] ["_law_name", "_law_answer", "_law_number"] (defScope (top 34)) := ⟨rfl, rfl, rfl, by decide +kernel, rfl, by decide +kernel, by decide +kernel⟩
theorem ok__law_told (T : Txt w C mg fa fi fd) : FnG PySem.Challenge.pw_movednames_k09_worlds_of_one_server w C mg base 12 (fa 28) (fd 28) ["_law_name", "_law_answer", "_law_number"] m__law_told := by
  have sc := sc__law_told
  refine fn_mirrorL (bd := ?bd) (sco := ?sco) (k := 11) (b := b__law_told) T.f__law_told sc rfl ?hb ?hs ?body
  (case hb => conv => lhs; whnf)
  (case hs => conv => lhs; whnf)
  intro cdv A outer s c E hr
  exact (ss_one (s1_tryAs 3 1 (takes_of rfl rfl rfl rfl) T.mx_InvalidStep ⟨rfl, by decide, .inl T.g_InvalidStep⟩ T.ex (fun _ _ _ t_ p_ => (ss_one (s1_ret (se_frz (sn_lst (sa_cons se_str (sa_cons (se_staticK T.sm_World_of_one ((ok_World_of_one T).mono (by decide)) hr t_ T.g_World T.kc_World_of_one_time rfl (sa_cons (se_var 0) (sa_cons (se_var 1) sa_nil)) (sk_cons (se_var 2) sk_nil)) sa_nil))))))) (fun _ _ _ _ _ hj hz hf => (se_frz (sn_lst (sa_cons se_str (sa_cons (se_callB (call_reprU hr.gd hr.units) (s_repr rfl) T.n_repr bb_repr (sa_cons (se_xf (T.xf_InvalidStep hj) (T.xn_InvalidStep hj) hz hf (se_var 3)) sa_nil)) sa_nil))))) sc.nd))
theorem sc__law_words : L2.FnScope ["_law_stream_here", "_law_count", "_law_letters", "_law_first", "_law_step", "_law_turn", "_law_head", "_law_tail", "_law_at"] ["_law_stream_here", "_law_count"] (defScope (top 33)) := ⟨rfl, rfl, rfl, by decide +kernel, rfl, by decide +kernel, by decide +kernel⟩
theorem ok__law_words (T : Txt w C mg fa fi fd) : FnG PySem.Challenge.pw_movednames_k09_worlds_of_one_server w C mg base 4 (fa 29) (fd 29) ["_law_stream_here", "_law_count"] m__law_words := by
  have sc := sc__law_words
  refine fn_mirrorL (bd := ?bd) (sco := ?sco) (k := 3) (b := b__law_words) T.f__law_words sc rfl ?hb ?hs ?body
  (case hb => conv => lhs; whnf)
  (case hs => conv => lhs; whnf)
  intro cdv A outer s c E hr
  exact (ss_cons (s1_set 2 se_str sc.nd) (ss_cons (s1_asg (se_tup (sa_cons (se_callN ((ok__law_draw T).mono (by decide)) hr (takes_of rfl rfl rfl rfl) T.g__law_draw T.k__law_draw (Dfl.none T.b__law_draw) rfl (sa_cons (se_var 0) (sa_cons se_int sa_nil))) (sa_cons (se_callN ((ok__law_choose T).mono (by decide)) hr (takes_of rfl rfl rfl rfl) T.g__law_choose T.k__law_choose (Dfl.none T.b__law_choose) rfl (sa_cons (se_var 0) (sa_cons (se_frz (sn_lst (sa_cons se_int (sa_cons se_int (sa_cons se_int (sa_cons se_int (sa_cons se_int (sa_cons se_int (sa_cons se_int (sa_cons se_int (sa_cons se_int (sa_cons se_int (sa_cons se_int (sa_cons se_int sa_nil)))))))))))))) sa_nil))) sa_nil))) (sg_tup rfl (sgs_cons (sg_name 3 sc.nd) (sgs_cons (sg_name 4 sc.nd) sgs_nil)))) (ss_cons (s1_set 6 (se_join se_str (se_frz (sn_compN [("_law_turn", 5)] [5] rfl (si_range1 T.n_range (se_callN ((ok__law_draw T).mono (by decide)) hr (takes_of rfl rfl rfl rfl) T.g__law_draw T.k__law_draw (Dfl.none T.b__law_draw) rfl (sa_cons (se_var 0) (sa_cons se_int sa_nil)))) sc.nd (by kernel_rfl) (fun _ _ _ _ _ => (sg_name 5 sc.nd)) (fun _ _ _ _ _ => sts_nil) (fun _ _ _ _ _ => (se_callN ((ok__law_choose T).mono (by decide)) hr takes0 T.g__law_choose T.k__law_choose (Dfl.none T.b__law_choose) rfl (sa_cons (se_var 0) (sa_cons (se_var 2) sa_nil))))))) sc.nd) (ss_cons (s1_set 7 (se_join se_str (se_frz (sn_compN [("_law_turn", 5)] [5] rfl (si_range1 T.n_range (se_callN ((ok__law_draw T).mono (by decide)) hr (takes_of rfl rfl rfl rfl) T.g__law_draw T.k__law_draw (Dfl.none T.b__law_draw) rfl (sa_cons (se_var 0) (sa_cons se_int sa_nil)))) sc.nd (by kernel_rfl) (fun _ _ _ _ _ => (sg_name 5 sc.nd)) (fun _ _ _ _ _ => sts_nil) (fun _ _ _ _ _ => (se_callN ((ok__law_choose T).mono (by decide)) hr takes0 T.g__law_choose T.k__law_choose (Dfl.none T.b__law_choose) rfl (sa_cons (se_var 0) (sa_cons (se_var 2) sa_nil))))))) sc.nd) (ss_one (s1_ret (se_frz (sn_compN [("_law_at", 8)] [8] rfl (si_range1 T.n_range (se_var 1)) sc.nd (by kernel_rfl) (fun _ _ _ _ _ => (sg_name 8 sc.nd)) (fun _ _ _ _ _ => sts_nil) (fun _ _ _ _ _ => (se_op op_addU s_add (se_op op_addU s_add (se_var 6) (se_ix (se_var 2) (se_op op_mod s_mod (se_callT call_intU s_int T.n_int bb_int (sa_cons (se_op op_addU s_add (se_var 3) (se_op op_mul s_mul (se_var 4) (se_var 8))) sa_nil)) se_int))) (se_var 7)))))))))))
theorem sc_law : L2.FnScope ["_law_script", "_law_odd", "_law_k", "_law_stream_here", "_law_names", "_law_turn", "_law_parts", "_law_name", "_law_answer", "_law_number", "_law_due", "_law_one", "_law_wrong", "_law_told_here", "_law_spot"] ["_law_script"] (defScope (top 35)) := ⟨rfl, rfl, rfl, by decide +kernel, rfl, by decide +kernel, by decide +kernel⟩
theorem ok_law (T : Txt w C mg fa fi fd) : FnG PySem.Challenge.pw_movednames_k09_worlds_of_one_server w C mg base 13 (fa 30) (fd 30) ["_law_script"] m_law := by
  have sc := sc_law
  refine fn_mirrorL (bd := ?bd) (sco := ?sco) (k := 12) (b := b_law) T.f_law sc rfl ?hb ?hs ?body
  (case hb => conv => lhs; whnf)
  (case hs => conv => lhs; whnf)
  intro cdv A outer s c E hr
  exact (ss_cons (s1_set 1 (se_frz (sn_lst (sa_cons se_non (sa_cons se_bl (sa_cons se_int (sa_cons (se_op op_addU s_add (se_op op_pow s_pow se_int se_int) se_int) (sa_cons se_str (sa_cons se_str (sa_cons (se_tup sa_nil) (sa_cons (se_frz (sn_lst (sa_cons se_str sa_nil))) (sa_cons se_str (sa_cons se_int (sa_cons se_str sa_nil))))))))))))) sc.nd) (ss_cons (s1_for (si_range1 T.n_range (se_callB (call_max2 rfl) s_max2 T.n_max bb_max (sa_cons se_int (sa_cons (se_callB (call_min2 rfl) s_min2 T.n_min bb_min (sa_cons se_int (sa_cons (se_callB call_lenU s_len T.n_len bb_len (sa_cons (se_var 0) sa_nil)) sa_nil))) sa_nil)))) (sg_name 2 sc.nd) (ss_cons (s1_set 3 (se_callN ((ok__law_stream T).mono (by decide)) hr (takes_of rfl rfl rfl rfl) T.g__law_stream T.k__law_stream (Dfl.none T.b__law_stream) rfl (sa_cons (se_var 0) (sa_cons (se_var 2) sa_nil))) sc.nd) (ss_cons (s1_set 4 (se_callN ((ok__law_words T).mono (by decide)) hr (takes_of rfl rfl rfl rfl) T.g__law_words T.k__law_words (Dfl.none T.b__law_words) rfl (sa_cons (se_var 3) (sa_cons se_int sa_nil))) sc.nd) (ss_one (s1_for (si_range1 T.n_range se_int) (sg_name 5 sc.nd) (ss_cons (s1_own 6 (sn_lst (sa_cons (se_ix (se_var 4) se_int) (sa_cons (se_callN ((ok__law_choose T).mono (by decide)) hr (takes_of rfl rfl rfl rfl) T.g__law_choose T.k__law_choose (Dfl.none T.b__law_choose) rfl (sa_cons (se_var 3) (sa_cons (se_frz (sn_lst (sa_cons se_non (sa_cons (se_ix (se_var 4) se_int) (sa_cons (se_ix (se_var 4) se_int) sa_nil))))) sa_nil))) sa_nil))) sc.nd) (ss_cons (s1_app 6 (se_callN ((ok__law_choose T).mono (by decide)) hr (takes_of rfl rfl rfl rfl) T.g__law_choose T.k__law_choose (Dfl.none T.b__law_choose) rfl (sa_cons (se_var 3) (sa_cons (se_frz (sn_lst (sa_cons se_int (sa_cons se_int (sa_cons (se_op op_pow s_pow se_int se_int) (sa_cons (se_op op_addU s_add se_int (se_callN ((ok__law_draw T).mono (by decide)) hr (takes_of rfl rfl rfl rfl) T.g__law_draw T.k__law_draw (Dfl.none T.b__law_draw) rfl (sa_cons (se_var 3) (sa_cons (se_op op_pow s_pow se_int se_int) sa_nil)))) sa_nil)))))) sa_nil))) (hb := fun hv ha => pe_bm PySem.F.plainAttrs_list PySem.F.slot_list_append PySem.F.type_list_append mt_append hv ha)) (ss_cons (s1_if (st_cmp (op_eqU hr.units) s_eqS (se_callN ((ok__law_draw T).mono (by decide)) hr (takes_of rfl rfl rfl rfl) T.g__law_draw T.k__law_draw (Dfl.none T.b__law_draw) rfl (sa_cons (se_var 3) (sa_cons se_int sa_nil))) se_int) (ss_one (s1_setixO 6 (se_callN ((ok__law_draw T).mono (by decide)) hr (takes_of rfl rfl rfl rfl) T.g__law_draw T.k__law_draw (Dfl.none T.b__law_draw) rfl (sa_cons (se_var 3) (sa_cons se_int sa_nil))) (se_callN ((ok__law_choose T).mono (by decide)) hr (takes_of rfl rfl rfl rfl) T.g__law_choose T.k__law_choose (Dfl.none T.b__law_choose) rfl (sa_cons (se_var 3) (sa_cons (se_var 1) sa_nil))))) ss_nil) (ss_cons (s1_frz 6 (s1_asgL (se_var 6) (sgs_cons (sg_name 7 sc.nd) (sgs_cons (sg_name 8 sc.nd) (sgs_cons (sg_name 9 sc.nd) sgs_nil))))) (ss_cons (s1_set 10 (se_frz (sn_lst (sa_cons (se_tup (sa_cons se_str (sa_cons (se_var 7) (sa_cons (se_tup (sa_cons (se_var 7) sa_nil)) (sa_cons (se_var 9) sa_nil))))) (sa_cons (se_tup (sa_cons se_str (sa_cons (se_var 7) (sa_cons (se_var 8) (sa_cons (se_var 9) sa_nil))))) (sa_cons (se_tup (sa_cons se_str (sa_cons (se_var 7) sa_nil))) sa_nil))))) sc.nd) (ss_cons (s1_compN 12 [("_law_one", 11)] [11] rfl (si_any (se_var 10)) sc.nd (by kernel_rfl) (fun _ _ _ _ _ => (sg_name 11 sc.nd)) (fun _ _ _ _ _ => sts_one (st_not (st_val (se_callN ((ok_is_step T).mono (by decide)) hr takes0 T.g_is_step T.k_is_step (Dfl.none T.b_is_step) rfl (sa_cons (se_var 11) sa_nil))))) (fun _ _ _ _ _ => (se_var 11))) (ss_cons (s1_frz 12 (s1_set 13 (se_callN ((ok__law_told T).mono (by decide)) hr (takes_of rfl rfl rfl rfl) T.g__law_told T.k__law_told (Dfl.none T.b__law_told) rfl (sa_cons (se_var 7) (sa_cons (se_var 8) (sa_cons (se_var 9) sa_nil)))) sc.nd)) (ss_one (s1_if (st_cmp (op_neU hr.units) s_neS (se_var 12) (se_frz (sn_lst sa_nil))) (ss_one (s1_if (st_cmp (op_neU hr.units) s_neS (se_var 13) (se_frz (sn_lst (sa_cons se_str (sa_cons (se_callB (call_reprU hr.gd hr.units) (s_repr rfl) T.n_repr bb_repr (sa_cons (se_ix (se_var 12) se_int) sa_nil)) sa_nil))))) (ss_one (s1_ret se_bl)) ss_nil)) (ss_cons (s1_if (st_cmp (op_neTW hr.units rfl hr ⟨⟨_, _, _, T.q_World.1, T.q_World.2, ((ok_World_eq T).mono (by decide)), T.b_World_eq, rfl⟩⟩) s_neTW (se_var 13) (se_frz (sn_lst (sa_cons se_str (sa_cons (se_static T.sm_World_of ((ok_World_of T).mono (by decide)) hr (takes_of rfl rfl rfl rfl) T.g_World (Dfl.none T.b_World_of) (sa_cons (se_op op_addU s_add (se_frz (sn_lst (sa_cons (se_tup (sa_cons se_str (sa_cons (se_tup (sa_cons (se_var 7) sa_nil)) (sa_cons (se_var 9) sa_nil)))) sa_nil))) (se_var 10)) sa_nil)) sa_nil))))) (ss_one (s1_ret se_bl)) ss_nil) (ss_cons (s1_for (si_any (se_frz (sn_lst (sa_cons (se_neg se_int) (sa_cons se_int (sa_cons (se_op op_pow s_pow se_int se_int) sa_nil)))))) (sg_name 14 sc.nd) (ss_one (s1_if (st_cmp (op_neU hr.units) s_neS (se_callX T.co_World_call ((ok_World_call T).mono (by decide)) hr (takes_of rfl rfl rfl rfl) (Dfl.none T.b_World_call) rfl (se_ix (se_var 13) se_int) (sa_cons (se_var 14) sa_nil)) (se_tup (sa_cons (se_tup (sa_cons (se_tup (sa_cons (se_var 7) sa_nil)) (sa_cons (se_var 9) sa_nil))) (sa_cons (se_tup (sa_cons (se_tup (sa_cons (se_var 7) (sa_cons (se_tup (sa_cons (se_var 7) sa_nil)) (sa_cons (se_var 9) (sa_cons (se_var 8) (sa_cons (se_var 9) sa_nil)))))) sa_nil)) (sa_cons (se_tup sa_nil) sa_nil))))) (ss_one (s1_ret se_bl)) ss_nil)) (passes_of rfl)) (ss_one (s1_if (st_sw (sw_or (st_cmp (op_neU hr.units) s_neS (se_meth0 T.cl_World T.me_World_moments ((ok_World_moments T).mono (by decide)) hr (takes_of rfl rfl rfl rfl) (Dfl.none T.b_World_moments) rfl (se_ix (se_var 13) se_int)) (se_frz (sn_lst sa_nil))) (sw_or1 (st_cmp (op_neU hr.units) s_neS (se_meth0 T.cl_World T.me_World_servers ((ok_World_servers T).mono (by decide)) hr (takes_of rfl rfl rfl rfl) (Dfl.none T.b_World_servers) rfl (se_ix (se_var 13) se_int)) (se_frz (sn_lst (sa_cons (se_var 7) sa_nil))))))) (ss_one (s1_ret se_bl)) ss_nil))))))))))))) (passes_of rfl))))) (passes_of rfl)) (ss_one (s1_ret se_bl))))
end
theorem all_mk {w : World} {K : PySem.W.Frag} {h : Heap} {mg : Str → Option Value} {fa : Addr} (X : K.In h) (G : h.Ns mainGlobals mg) (hfa : mg "law" = some (.ref fa))
  {A1 : Addr}
  {A2 : Addr}
  {A3 : Addr}
  {A4 : Addr}
  {A5 : Addr}
  {f0 : Addr}
  {oc0 kV0 dc0 pm0 cd0 ct0 : Value}
  {od0 an0 : Option Addr}
  {sl0 : Array (Option Value)}
  {f1 : Addr}
  {oc1 kV1 dc1 pm1 cd1 ct1 : Value}
  {od1 an1 : Option Addr}
  {sl1 : Array (Option Value)}
  {f2 : Addr}
  {oc2 kV2 dc2 pm2 cd2 ct2 : Value}
  {od2 an2 : Option Addr}
  {sl2 : Array (Option Value)}
  {f3 : Addr}
  {oc3 kV3 dc3 pm3 cd3 ct3 : Value}
  {od3 an3 : Option Addr}
  {sl3 : Array (Option Value)}
  {f4 : Addr}
  {oc4 kV4 dc4 pm4 cd4 ct4 : Value}
  {od4 an4 : Option Addr}
  {sl4 : Array (Option Value)}
  {f5 : Addr}
  {oc5 kV5 dc5 pm5 cd5 ct5 : Value}
  {od5 an5 : Option Addr}
  {sl5 : Array (Option Value)}
  {f6 : Addr}
  {oc6 kV6 dc6 pm6 cd6 ct6 : Value}
  {od6 an6 : Option Addr}
  {sl6 : Array (Option Value)}
  {f7 : Addr}
  {oc7 kV7 dc7 pm7 cd7 ct7 : Value}
  {od7 an7 : Option Addr}
  {sl7 : Array (Option Value)}
  {f8 : Addr}
  {oc8 kV8 dc8 pm8 cd8 ct8 : Value}
  {od8 an8 : Option Addr}
  {sl8 : Array (Option Value)}
  {f9 : Addr}
  {oc9 kV9 dc9 pm9 cd9 ct9 : Value}
  {od9 an9 : Option Addr}
  {sl9 : Array (Option Value)}
  {f10 : Addr}
  {oc10 kV10 dc10 pm10 cd10 ct10 : Value}
  {od10 an10 : Option Addr}
  {sl10 : Array (Option Value)}
  {f11 : Addr}
  {oc11 kV11 dc11 pm11 cd11 ct11 : Value}
  {od11 an11 : Option Addr}
  {sl11 : Array (Option Value)}
  {f12 : Addr}
  {oc12 kV12 dc12 pm12 cd12 ct12 : Value}
  {od12 an12 : Option Addr}
  {sl12 : Array (Option Value)}
  {f13 : Addr}
  {oc13 kV13 dc13 pm13 cd13 ct13 : Value}
  {od13 an13 : Option Addr}
  {sl13 : Array (Option Value)}
  {f14 : Addr}
  {oc14 kV14 dc14 pm14 cd14 ct14 : Value}
  {od14 an14 : Option Addr}
  {sl14 : Array (Option Value)}
  {f15 : Addr}
  {oc15 kV15 dc15 pm15 cd15 ct15 : Value}
  {od15 an15 : Option Addr}
  {sl15 : Array (Option Value)}
  {f16 : Addr}
  {oc16 kV16 dc16 pm16 cd16 ct16 : Value}
  {od16 an16 : Option Addr}
  {sl16 : Array (Option Value)}
  {f17 : Addr}
  {oc17 kV17 dc17 pm17 cd17 ct17 : Value}
  {od17 an17 : Option Addr}
  {sl17 : Array (Option Value)}
  {f18 : Addr}
  {oc18 kV18 dc18 pm18 cd18 ct18 : Value}
  {od18 an18 : Option Addr}
  {sl18 : Array (Option Value)}
  {f19 : Addr}
  {oc19 kV19 dc19 pm19 cd19 ct19 : Value}
  {od19 an19 : Option Addr}
  {sl19 : Array (Option Value)}
  {f20 : Addr}
  {oc20 kV20 dc20 pm20 cd20 ct20 : Value}
  {od20 an20 : Option Addr}
  {sl20 : Array (Option Value)}
  {sp20 : Addr}
  {rest20 : List Value}
  {f21 : Addr}
  {oc21 kV21 dc21 pm21 cd21 ct21 : Value}
  {od21 an21 : Option Addr}
  {sl21 : Array (Option Value)}
  {f22 : Addr}
  {oc22 kV22 dc22 pm22 cd22 ct22 : Value}
  {od22 an22 : Option Addr}
  {sl22 : Array (Option Value)}
  {f23 : Addr}
  {oc23 kV23 dc23 pm23 cd23 ct23 : Value}
  {od23 an23 : Option Addr}
  {sl23 : Array (Option Value)}
  {f24 : Addr}
  {oc24 kV24 dc24 pm24 cd24 ct24 : Value}
  {od24 an24 : Option Addr}
  {sl24 : Array (Option Value)}
  {f25 : Addr}
  {oc25 kV25 dc25 pm25 cd25 ct25 : Value}
  {od25 an25 : Option Addr}
  {sl25 : Array (Option Value)}
  {f26 : Addr}
  {oc26 dc26 pm26 cd26 ct26 : Value}
  {od26 an26 : Option Addr}
  {sl26 : Array (Option Value)}
  {kD26 : Addr}
  {f27 : Addr}
  {oc27 kV27 dc27 pm27 cd27 ct27 : Value}
  {od27 an27 : Option Addr}
  {sl27 : Array (Option Value)}
  {sp27 : Addr}
  {rest27 : List Value}
  {f28 : Addr}
  {oc28 kV28 dc28 pm28 cd28 ct28 : Value}
  {od28 an28 : Option Addr}
  {sl28 : Array (Option Value)}
  {f29 : Addr}
  {oc29 kV29 dc29 pm29 cd29 ct29 : Value}
  {od29 an29 : Option Addr}
  {sl29 : Array (Option Value)}
  {f30 : Addr}
  {oc30 kV30 dc30 pm30 cd30 ct30 : Value}
  {od30 an30 : Option Addr}
  {sl30 : Array (Option Value)}
  {t_LETTERS : Tok}
  {t_MOST_LETTERS : Tok}
  {t_MOST_SERVERS : Tok}
  {t_MOST_TIME : Tok}
  {nm1 q1 : Str}
  {N1 : Addr}
  {bs1 bm1 : List Value}
  {sn1 : List Str}
  {sub1 : List Value}
  {ab1 : Bool}
  {col1 : Option Bool}
  {dd1 : Option Addr}
  {m01 m11 m21 m31 m51 : Option Value}
  {fI1 : Addr}
  {ocI1 docI1 pmI1 ctI1 : Value}
  {odI1 anI1 : Option Addr}
  {slI1 : Array (Option Value)}
  {cda1 cc1 : Addr}
  {ccl1 cl1 : Value}
  {cdd1 cld1 : Option Addr}
  {vs1 : Array Value}
  {ccs1 csl1 : Array (Option Value)}
  {fil1 : Str}
  {tf1 : Tok}
  {nm2 q2 : Str}
  {N2 : Addr}
  {bs2 bm2 : List Value}
  {sn2 : List Str}
  {sub2 : List Value}
  {ab2 : Bool}
  {col2 : Option Bool}
  {dd2 : Option Addr}
  {m02 m12 m22 m32 m52 : Option Value}
  {fI2 : Addr}
  {ocI2 docI2 pmI2 ctI2 : Value}
  {odI2 anI2 : Option Addr}
  {slI2 : Array (Option Value)}
  {cda2 cc2 : Addr}
  {ccl2 cl2 : Value}
  {cdd2 cld2 : Option Addr}
  {vs2 : Array Value}
  {ccs2 csl2 : Array (Option Value)}
  {fil2 : Str}
  {tf2 : Tok}
  {nm3 q3 : Str}
  {N3 : Addr}
  {bs3 bm3 : List Value}
  {sn3 : List Str}
  {sub3 : List Value}
  {ab3 : Bool}
  {col3 : Option Bool}
  {dd3 : Option Addr}
  {m03 m13 m23 m33 m53 : Option Value}
  {fI3 : Addr}
  {ocI3 docI3 pmI3 ctI3 : Value}
  {odI3 anI3 : Option Addr}
  {slI3 : Array (Option Value)}
  {cda3 cc3 : Addr}
  {ccl3 cl3 : Value}
  {cdd3 cld3 : Option Addr}
  {vs3 : Array Value}
  {ccs3 csl3 : Array (Option Value)}
  {fil3 : Str}
  {tf3 : Tok}
  (gY1 : PySem.W.nsIn K mainGlobals "InvalidStep" = some (some (.ref A1)))
  (gY2 : PySem.W.nsIn K mainGlobals "InvalidMoment" = some (some (.ref A2)))
  (gY3 : PySem.W.nsIn K mainGlobals "InvalidWorld" = some (some (.ref A3)))
  (gY4 : PySem.W.nsIn K mainGlobals "Told" = some (some (.ref A4)))
  (gY5 : PySem.W.nsIn K mainGlobals "World" = some (some (.ref A5)))
  (a0 : PySem.W.findIn K (.ref A4) "__init__" = some (some (.ref f0)))
  (i0 : PySem.W.isFn K (.ref f0) = true)
  (l0 : K.lookup f0 = some ⟨oc0, od0, .func (PySem.W.fnOf "__init__" "Told.__init__" (defArgs (inClass (top 27) 0)) (defBody (inClass (top 27) 0)) (defScope (inClass (top 27) 0)) .none kV0 dc0 pm0 an0 cd0 ct0), sl0⟩)
  (c0 : PySem.W.codeIn K cd0 "Told.__init__" = true)
  (k0 : PySem.W.keepIn K (.ref f0) = true)
  (a1 : PySem.W.findIn K (.ref A4) "say" = some (some (.ref f1)))
  (i1 : PySem.W.isFn K (.ref f1) = true)
  (l1 : K.lookup f1 = some ⟨oc1, od1, .func (PySem.W.fnOf "say" "Told.say" (defArgs (inClass (top 27) 1)) (defBody (inClass (top 27) 1)) (defScope (inClass (top 27) 1)) .none kV1 dc1 pm1 an1 cd1 ct1), sl1⟩)
  (c1 : PySem.W.codeIn K cd1 "Told.say" = true)
  (k1 : PySem.W.keepIn K (.ref f1) = true)
  (a2 : PySem.W.findIn K (.ref A4) "is_ready" = some (some (.ref f2)))
  (i2 : PySem.W.isFn K (.ref f2) = true)
  (l2 : K.lookup f2 = some ⟨oc2, od2, .func (PySem.W.fnOf "is_ready" "Told.is_ready" (defArgs (inClass (top 27) 2)) (defBody (inClass (top 27) 2)) (defScope (inClass (top 27) 2)) .none kV2 dc2 pm2 an2 cd2 ct2), sl2⟩)
  (c2 : PySem.W.codeIn K cd2 "Told.is_ready" = true)
  (k2 : PySem.W.keepIn K (.ref f2) = true)
  (a3 : PySem.W.findIn K (.ref A4) "told_rows" = some (some (.ref f3)))
  (i3 : PySem.W.isFn K (.ref f3) = true)
  (l3 : K.lookup f3 = some ⟨oc3, od3, .func (PySem.W.fnOf "told_rows" "Told.told_rows" (defArgs (inClass (top 27) 3)) (defBody (inClass (top 27) 3)) (defScope (inClass (top 27) 3)) .none kV3 dc3 pm3 an3 cd3 ct3), sl3⟩)
  (c3 : PySem.W.codeIn K cd3 "Told.told_rows" = true)
  (k3 : PySem.W.keepIn K (.ref f3) = true)
  (a4 : PySem.W.nsIn K mainGlobals "in_order" = some (some (.ref f4)))
  (l4 : K.lookup f4 = some ⟨oc4, od4, .func (PySem.W.fnOf "in_order" "in_order" (defArgs (top 22)) (defBody (top 22)) (defScope (top 22)) .none kV4 dc4 pm4 an4 cd4 ct4), sl4⟩)
  (c4 : PySem.W.codeIn K cd4 "in_order" = true)
  (k4 : PySem.W.keepIn K (.ref f4) = true)
  (a5 : PySem.W.findIn K (.ref A4) "seen" = some (some (.ref f5)))
  (i5 : PySem.W.isFn K (.ref f5) = true)
  (l5 : K.lookup f5 = some ⟨oc5, od5, .func (PySem.W.fnOf "seen" "Told.seen" (defArgs (inClass (top 27) 4)) (defBody (inClass (top 27) 4)) (defScope (inClass (top 27) 4)) .none kV5 dc5 pm5 an5 cd5 ct5), sl5⟩)
  (c5 : PySem.W.codeIn K cd5 "Told.seen" = true)
  (k5 : PySem.W.keepIn K (.ref f5) = true)
  (a6 : PySem.W.findIn K (.ref A5) "moments" = some (some (.ref f6)))
  (i6 : PySem.W.isFn K (.ref f6) = true)
  (l6 : K.lookup f6 = some ⟨oc6, od6, .func (PySem.W.fnOf "moments" "World.moments" (defArgs (inClass (top 28) 10)) (defBody (inClass (top 28) 10)) (defScope (inClass (top 28) 10)) .none kV6 dc6 pm6 an6 cd6 ct6), sl6⟩)
  (c6 : PySem.W.codeIn K cd6 "World.moments" = true)
  (k6 : PySem.W.keepIn K (.ref f6) = true)
  (a7 : PySem.W.nsIn K mainGlobals "is_integer" = some (some (.ref f7)))
  (l7 : K.lookup f7 = some ⟨oc7, od7, .func (PySem.W.fnOf "is_integer" "is_integer" (defArgs (top 11)) (defBody (top 11)) (defScope (top 11)) .none kV7 dc7 pm7 an7 cd7 ct7), sl7⟩)
  (c7 : PySem.W.codeIn K cd7 "is_integer" = true)
  (k7 : PySem.W.keepIn K (.ref f7) = true)
  (a8 : PySem.W.findIn K (.ref A5) "__call__" = some (some (.ref f8)))
  (i8 : PySem.W.isFn K (.ref f8) = true)
  (fi8 : PySem.W.fnIn K f8 = true)
  (l8 : K.lookup f8 = some ⟨oc8, od8, .func (PySem.W.fnOf "__call__" "World.__call__" (defArgs (inClass (top 28) 13)) (defBody (inClass (top 28) 13)) (defScope (inClass (top 28) 13)) .none kV8 dc8 pm8 an8 cd8 ct8), sl8⟩)
  (c8 : PySem.W.codeIn K cd8 "World.__call__" = true)
  (k8 : PySem.W.keepIn K (.ref f8) = true)
  (a9 : PySem.W.findIn K (.ref A5) "__eq__" = some (some (.ref f9)))
  (i9 : PySem.W.isFn K (.ref f9) = true)
  (l9 : K.lookup f9 = some ⟨oc9, od9, .func (PySem.W.fnOf "__eq__" "World.__eq__" (defArgs (inClass (top 28) 17)) (defBody (inClass (top 28) 17)) (defScope (inClass (top 28) 17)) .none kV9 dc9 pm9 an9 cd9 ct9), sl9⟩)
  (c9 : PySem.W.codeIn K cd9 "World.__eq__" = true)
  (k9 : PySem.W.keepIn K (.ref f9) = true)
  (a10 : PySem.W.nsIn K mainGlobals "is_word" = some (some (.ref f10)))
  (l10 : K.lookup f10 = some ⟨oc10, od10, .func (PySem.W.fnOf "is_word" "is_word" (defArgs (top 13)) (defBody (top 13)) (defScope (top 13)) .none kV10 dc10 pm10 an10 cd10 ct10), sl10⟩)
  (c10 : PySem.W.codeIn K cd10 "is_word" = true)
  (k10 : PySem.W.keepIn K (.ref f10) = true)
  (a11 : PySem.W.nsIn K mainGlobals "is_servers" = some (some (.ref f11)))
  (l11 : K.lookup f11 = some ⟨oc11, od11, .func (PySem.W.fnOf "is_servers" "is_servers" (defArgs (top 17)) (defBody (top 17)) (defScope (top 17)) .none kV11 dc11 pm11 an11 cd11 ct11), sl11⟩)
  (c11 : PySem.W.codeIn K cd11 "is_servers" = true)
  (k11 : PySem.W.keepIn K (.ref f11) = true)
  (a12 : PySem.W.nsIn K mainGlobals "is_between" = some (some (.ref f12)))
  (l12 : K.lookup f12 = some ⟨oc12, od12, .func (PySem.W.fnOf "is_between" "is_between" (defArgs (top 12)) (defBody (top 12)) (defScope (top 12)) .none kV12 dc12 pm12 an12 cd12 ct12), sl12⟩)
  (c12 : PySem.W.codeIn K cd12 "is_between" = true)
  (k12 : PySem.W.keepIn K (.ref f12) = true)
  (a13 : PySem.W.nsIn K mainGlobals "is_time" = some (some (.ref f13)))
  (l13 : K.lookup f13 = some ⟨oc13, od13, .func (PySem.W.fnOf "is_time" "is_time" (defArgs (top 14)) (defBody (top 14)) (defScope (top 14)) .none kV13 dc13 pm13 an13 cd13 ct13), sl13⟩)
  (c13 : PySem.W.codeIn K cd13 "is_time" = true)
  (k13 : PySem.W.keepIn K (.ref f13) = true)
  (a14 : PySem.W.nsIn K mainGlobals "is_value" = some (some (.ref f14)))
  (l14 : K.lookup f14 = some ⟨oc14, od14, .func (PySem.W.fnOf "is_value" "is_value" (defArgs (top 16)) (defBody (top 16)) (defScope (top 16)) .none kV14 dc14 pm14 an14 cd14 ct14), sl14⟩)
  (c14 : PySem.W.codeIn K cd14 "is_value" = true)
  (k14 : PySem.W.keepIn K (.ref f14) = true)
  (a15 : PySem.W.nsIn K mainGlobals "is_step" = some (some (.ref f15)))
  (l15 : K.lookup f15 = some ⟨oc15, od15, .func (PySem.W.fnOf "is_step" "is_step" (defArgs (top 18)) (defBody (top 18)) (defScope (top 18)) .none kV15 dc15 pm15 an15 cd15 ct15), sl15⟩)
  (c15 : PySem.W.codeIn K cd15 "is_step" = true)
  (k15 : PySem.W.keepIn K (.ref f15) = true)
  (a16 : PySem.W.nsIn K mainGlobals "check_step" = some (some (.ref f16)))
  (l16 : K.lookup f16 = some ⟨oc16, od16, .func (PySem.W.fnOf "check_step" "check_step" (defArgs (top 19)) (defBody (top 19)) (defScope (top 19)) .none kV16 dc16 pm16 an16 cd16 ct16), sl16⟩)
  (c16 : PySem.W.codeIn K cd16 "check_step" = true)
  (k16 : PySem.W.keepIn K (.ref f16) = true)
  (a17 : PySem.W.nsIn K mainGlobals "servers_of" = some (some (.ref f17)))
  (l17 : K.lookup f17 = some ⟨oc17, od17, .func (PySem.W.fnOf "servers_of" "servers_of" (defArgs (top 20)) (defBody (top 20)) (defScope (top 20)) .none kV17 dc17 pm17 an17 cd17 ct17), sl17⟩)
  (c17 : PySem.W.codeIn K cd17 "servers_of" = true)
  (k17 : PySem.W.keepIn K (.ref f17) = true)
  (a18 : PySem.W.nsIn K mainGlobals "named_by" = some (some (.ref f18)))
  (l18 : K.lookup f18 = some ⟨oc18, od18, .func (PySem.W.fnOf "named_by" "named_by" (defArgs (top 25)) (defBody (top 25)) (defScope (top 25)) .none kV18 dc18 pm18 an18 cd18 ct18), sl18⟩)
  (c18 : PySem.W.codeIn K cd18 "named_by" = true)
  (k18 : PySem.W.keepIn K (.ref f18) = true)
  (a19 : PySem.W.findIn K (.ref A5) "__init__" = some (some (.ref f19)))
  (i19 : PySem.W.isFn K (.ref f19) = true)
  (l19 : K.lookup f19 = some ⟨oc19, od19, .func (PySem.W.fnOf "__init__" "World.__init__" (defArgs (inClass (top 28) 0)) (defBody (inClass (top 28) 0)) (defScope (inClass (top 28) 0)) .none kV19 dc19 pm19 an19 cd19 ct19), sl19⟩)
  (c19 : PySem.W.codeIn K cd19 "World.__init__" = true)
  (k19 : PySem.W.keepIn K (.ref f19) = true)
  (sgr5 : PySem.W.readsIn K A5 (.type "type") = true)
  (sga5 : PySem.W.specialIn K (.ref A5) "__getattribute__" = some (some (.builtin "type.__getattribute__")))
  (a20 : PySem.W.findCls K (.ref A5) (.type "type") "of" = some (.get (.builtin "staticmethod.__get__") (.ref sp20) .none (.ref A5)))
  (pc20 : PySem.W.recIn K sp20 "staticmethod" = some (.ref f20 :: rest20))
  (l20 : K.lookup f20 = some ⟨oc20, od20, .func (PySem.W.fnOf "of" "World.of" (defArgs (inClass (top 28) 18)) (defBody (inClass (top 28) 18)) (defScope (inClass (top 28) 18)) .none kV20 dc20 pm20 an20 cd20 ct20), sl20⟩)
  (c20 : PySem.W.codeIn K cd20 "World.of" = true)
  (k20 : PySem.W.keepIn K (.ref f20) = true)
  (a21 : PySem.W.findIn K (.ref A5) "all_steps" = some (some (.ref f21)))
  (i21 : PySem.W.isFn K (.ref f21) = true)
  (l21 : K.lookup f21 = some ⟨oc21, od21, .func (PySem.W.fnOf "all_steps" "World.all_steps" (defArgs (inClass (top 28) 2)) (defBody (inClass (top 28) 2)) (defScope (inClass (top 28) 2)) .none kV21 dc21 pm21 an21 cd21 ct21), sl21⟩)
  (c21 : PySem.W.codeIn K cd21 "World.all_steps" = true)
  (k21 : PySem.W.keepIn K (.ref f21) = true)
  (a22 : PySem.W.findIn K (.ref A5) "servers" = some (some (.ref f22)))
  (i22 : PySem.W.isFn K (.ref f22) = true)
  (l22 : K.lookup f22 = some ⟨oc22, od22, .func (PySem.W.fnOf "servers" "World.servers" (defArgs (inClass (top 28) 12)) (defBody (inClass (top 28) 12)) (defScope (inClass (top 28) 12)) .none kV22 dc22 pm22 an22 cd22 ct22), sl22⟩)
  (c22 : PySem.W.codeIn K cd22 "World.servers" = true)
  (k22 : PySem.W.keepIn K (.ref f22) = true)
  (a23 : PySem.W.nsIn K mainGlobals "_law_draw" = some (some (.ref f23)))
  (l23 : K.lookup f23 = some ⟨oc23, od23, .func (PySem.W.fnOf "_law_draw" "_law_draw" (defArgs (top 31)) (defBody (top 31)) (defScope (top 31)) .none kV23 dc23 pm23 an23 cd23 ct23), sl23⟩)
  (c23 : PySem.W.codeIn K cd23 "_law_draw" = true)
  (k23 : PySem.W.keepIn K (.ref f23) = true)
  (a24 : PySem.W.nsIn K mainGlobals "_law_choose" = some (some (.ref f24)))
  (l24 : K.lookup f24 = some ⟨oc24, od24, .func (PySem.W.fnOf "_law_choose" "_law_choose" (defArgs (top 32)) (defBody (top 32)) (defScope (top 32)) .none kV24 dc24 pm24 an24 cd24 ct24), sl24⟩)
  (c24 : PySem.W.codeIn K cd24 "_law_choose" = true)
  (k24 : PySem.W.keepIn K (.ref f24) = true)
  (a25 : PySem.W.nsIn K mainGlobals "_law_stream" = some (some (.ref f25)))
  (l25 : K.lookup f25 = some ⟨oc25, od25, .func (PySem.W.fnOf "_law_stream" "_law_stream" (defArgs (top 30)) (defBody (top 30)) (defScope (top 30)) .none kV25 dc25 pm25 an25 cd25 ct25), sl25⟩)
  (c25 : PySem.W.codeIn K cd25 "_law_stream" = true)
  (k25 : PySem.W.keepIn K (.ref f25) = true)
  (a26 : PySem.W.nsIn K mainGlobals "ready" = some (some (.ref f26)))
  (l26 : K.lookup f26 = some ⟨oc26, od26, .func (PySem.W.fnOf "ready" "ready" (defArgs (top 21)) (defBody (top 21)) (defScope (top 21)) .none (.ref kD26) dc26 pm26 an26 cd26 ct26), sl26⟩)
  (kd26_answer_time : PySem.W.nsIn K kD26 "answer_time" = some (some .none))
  (c26 : PySem.W.codeIn K cd26 "ready" = true)
  (k26 : PySem.W.keepIn K (.ref f26) = true)
  (a27 : PySem.W.findCls K (.ref A5) (.type "type") "of_one" = some (.get (.builtin "staticmethod.__get__") (.ref sp27) .none (.ref A5)))
  (pc27 : PySem.W.recIn K sp27 "staticmethod" = some (.ref f27 :: rest27))
  (l27 : K.lookup f27 = some ⟨oc27, od27, .func (PySem.W.fnOf "of_one" "World.of_one" (defArgs (inClass (top 28) 19)) (defBody (inClass (top 28) 19)) (defScope (inClass (top 28) 19)) .none kV27 dc27 pm27 an27 cd27 ct27), sl27⟩)
  (c27 : PySem.W.codeIn K cd27 "World.of_one" = true)
  (k27 : PySem.W.keepIn K (.ref f27) = true)
  (a28 : PySem.W.nsIn K mainGlobals "_law_told" = some (some (.ref f28)))
  (l28 : K.lookup f28 = some ⟨oc28, od28, .func (PySem.W.fnOf "_law_told" "_law_told" (defArgs (top 34)) (defBody (top 34)) (defScope (top 34)) .none kV28 dc28 pm28 an28 cd28 ct28), sl28⟩)
  (c28 : PySem.W.codeIn K cd28 "_law_told" = true)
  (k28 : PySem.W.keepIn K (.ref f28) = true)
  (a29 : PySem.W.nsIn K mainGlobals "_law_words" = some (some (.ref f29)))
  (l29 : K.lookup f29 = some ⟨oc29, od29, .func (PySem.W.fnOf "_law_words" "_law_words" (defArgs (top 33)) (defBody (top 33)) (defScope (top 33)) .none kV29 dc29 pm29 an29 cd29 ct29), sl29⟩)
  (c29 : PySem.W.codeIn K cd29 "_law_words" = true)
  (k29 : PySem.W.keepIn K (.ref f29) = true)
  (a30 : PySem.W.nsIn K mainGlobals "law" = some (some (.ref f30)))
  (l30 : K.lookup f30 = some ⟨oc30, od30, .func (PySem.W.fnOf "law" "law" (defArgs (top 35)) (defBody (top 35)) (defScope (top 35)) .none kV30 dc30 pm30 an30 cd30 ct30), sl30⟩)
  (c30 : PySem.W.codeIn K cd30 "law" = true)
  (k30 : PySem.W.keepIn K (.ref f30) = true)
  (z_all : PySem.W.nsIn K mainGlobals "all" = some none)
  (z_any : PySem.W.nsIn K mainGlobals "any" = some none)
  (z_bool : PySem.W.nsIn K mainGlobals "bool" = some none)
  (z_int : PySem.W.nsIn K mainGlobals "int" = some none)
  (z_isinstance : PySem.W.nsIn K mainGlobals "isinstance" = some none)
  (z_len : PySem.W.nsIn K mainGlobals "len" = some none)
  (z_list : PySem.W.nsIn K mainGlobals "list" = some none)
  (z_max : PySem.W.nsIn K mainGlobals "max" = some none)
  (z_min : PySem.W.nsIn K mainGlobals "min" = some none)
  (z_range : PySem.W.nsIn K mainGlobals "range" = some none)
  (z_repr : PySem.W.nsIn K mainGlobals "repr" = some none)
  (z_sorted : PySem.W.nsIn K mainGlobals "sorted" = some none)
  (z_str : PySem.W.nsIn K mainGlobals "str" = some none)
  (z_tuple : PySem.W.nsIn K mainGlobals "tuple" = some none)
  (v_LETTERS : PySem.W.nsIn K mainGlobals "LETTERS" = some (some (.str "abcdefghijklmnopqrstuvwxyz" t_LETTERS)))
  (v_MOST_LETTERS : PySem.W.nsIn K mainGlobals "MOST_LETTERS" = some (some (.int 8 t_MOST_LETTERS)))
  (v_MOST_SERVERS : PySem.W.nsIn K mainGlobals "MOST_SERVERS" = some (some (.int 5 t_MOST_SERVERS)))
  (v_MOST_TIME : PySem.W.nsIn K mainGlobals "MOST_TIME" = some (some (.int 1000000000 t_MOST_TIME)))
  (opg4 : PySem.W.plainGet K A4 Str.empty = true)
  (ohd4 : PySem.W.hasDictIn K A4 = true)
  (opo4 : PySem.W.plainOver K A4 = true)
  (osa4 : PySem.W.findIn K (.ref A4) "__setattr__" = some (some (.builtin "object.__setattr__")))
  (on4_answerings : PySem.W.findIn K (.ref A4) "answerings" = some none)
  (on4_gone : PySem.W.findIn K (.ref A4) "gone" = some none)
  (on4_parent : PySem.W.findIn K (.ref A4) "parent" = some none)
  (on4_running : PySem.W.findIn K (.ref A4) "running" = some none)
  (on4_tellings : PySem.W.findIn K (.ref A4) "tellings" = some none)
  (omk4 : PySem.W.makesIn K A4 = true)
  (okc4 : PySem.W.keepIn K (.ref A4) = true)
  (oha4 : PySem.W.findIn K (.ref A4) "__class__" = some (some (.builtin "object.__class__")))
  (ohm4 : PySem.W.mroIn K A4 (.type "object") = some true)
  (opg5 : PySem.W.plainGet K A5 Str.empty = true)
  (ohd5 : PySem.W.hasDictIn K A5 = true)
  (opo5 : PySem.W.plainOver K A5 = true)
  (osa5 : PySem.W.findIn K (.ref A5) "__setattr__" = some (some (.builtin "object.__setattr__")))
  (on5_first : PySem.W.findIn K (.ref A5) "first" = some none)
  (on5_said : PySem.W.findIn K (.ref A5) "said" = some none)
  (omk5 : PySem.W.makesIn K A5 = true)
  (okc5 : PySem.W.keepIn K (.ref A5) = true)
  (oha5 : PySem.W.findIn K (.ref A5) "__class__" = some (some (.builtin "object.__class__")))
  (ohm5 : PySem.W.mroIn K A5 (.type "object") = some true)
  (oki5_NoneType : PySem.W.kitOne K (.type "NoneType") (.ref A5) = some false)
  (oki5_bool : PySem.W.kitOne K (.type "bool") (.ref A5) = some false)
  (oki5_int : PySem.W.kitOne K (.type "int") (.ref A5) = some false)
  (oki5_str : PySem.W.kitOne K (.type "str") (.ref A5) = some false)
  (oki5_tuple : PySem.W.kitOne K (.type "tuple") (.ref A5) = some false)
  (oki5_list : PySem.W.kitOne K (.type "list") (.ref A5) = some false)
  (oki5_dict : PySem.W.kitOne K (.type "dict") (.ref A5) = some false)
  (oks4_5 : PySem.W.kitOne K (.ref A4) (.ref A5) = some false)
  (oks5_5 : PySem.W.kitOne K (.ref A5) (.ref A5) = some true)
  (onf5_NoneType : PySem.W.notFirst K A5 (.type "NoneType") = true)
  (onf5_bool : PySem.W.notFirst K A5 (.type "bool") = true)
  (onf5_int : PySem.W.notFirst K A5 (.type "int") = true)
  (onf5_str : PySem.W.notFirst K A5 (.type "str") = true)
  (onf5_tuple : PySem.W.notFirst K A5 (.type "tuple") = true)
  (onf5_list : PySem.W.notFirst K A5 (.type "list") = true)
  (onf5_dict : PySem.W.notFirst K A5 (.type "dict") = true)
  (onf5_own : PySem.W.notFirst K A5 (.ref A5) = true)
  (xC1 : K.lookup A1 = some (excClassObj nm1 q1 A1 N1 bs1 bm1 true sn1 sub1 ab1 col1 dd1 m01 m11 m21 m31 m51 "ValueError.__new__"))
  (rv1 : PySem.HandSPX.refsVE bm1 = true)
  (sa1 : PySem.W.findIn K (.ref A1) "__setattr__" = some (some (.builtin "object.__setattr__")))
  (ga1 : PySem.W.findIn K (.ref A1) "__getattribute__" = some (some (.builtin "BaseException.__getattribute__")))
  (gg1 : PySem.W.findIn K (.ref A1) "__getattr__" = some none)
  (nf1 : PySem.W.findIn K (.ref A1) "step" = some none)
  (ac1 : PySem.W.findIn K (.ref A1) "__class__" = some (some (.builtin "object.__class__")))
  (ic1 : PySem.W.findIn K (.ref A1) "__init__" = some (some (.ref fI1)))
  (tc1 : PySem.W.typeIn K (.ref fI1) = some (.type "function"))
  (kc1 : PySem.W.keepIn K (.ref A1) = true)
  (ex1 : PySem.W.subIn K (.ref A1) (.type "BaseException") = some true)
  (ty1 : PySem.W.typeIn K (.ref A1) = some (.type "type"))
  (hd1 : PySem.W.hasDictIn K A1 = true)
  (mo1 : PySem.W.mroIn K A1 (.type "object") = some true)
  (su1 : PySem.W.ks_superIn K A1 A1 "__init__" = some (some (.builtin "ValueError.__init__")))
  (sv1 : PySem.W.subIn K (.ref A1) (.type "ValueError") = some true)
  (se1 : PySem.W.mroIn K A1 (.ref A1) = some true)
  (li1 : K.lookup fI1 = some ⟨ocI1, odI1, .func (PySem.W.ksFn "__init__" "InvalidStep.__init__" (defArgs (inClass (top 3) 0)) (defBody (inClass (top 3) 0)) (defScope (inClass (top 3) 0)) .none .none docI1 pmI1 anI1 (.ref cda1) ctI1 cc1), slI1⟩)
  (ci1 : PySem.W.codeIn K (.ref cda1) "InvalidStep.__init__" = true)
  (lc1 : K.lookup cda1 = some ⟨ccl1, cdd1, .fields vs1, ccs1⟩)
  (vf1 : vs1[2]? = some (.str fil1 tf1))
  (fe1 : ((PySem.Challenge.pw_movednames_k09_worlds_of_one_server.main.file : Str) == fil1) = true)
  (lx1 : K.lookup cc1 = some ⟨cl1, cld1, .cell (some (.ref A1)), csl1⟩)
  (xC2 : K.lookup A2 = some (excClassObj nm2 q2 A2 N2 bs2 bm2 true sn2 sub2 ab2 col2 dd2 m02 m12 m22 m32 m52 "ValueError.__new__"))
  (rv2 : PySem.HandSPX.refsVE bm2 = true)
  (sa2 : PySem.W.findIn K (.ref A2) "__setattr__" = some (some (.builtin "object.__setattr__")))
  (ga2 : PySem.W.findIn K (.ref A2) "__getattribute__" = some (some (.builtin "BaseException.__getattribute__")))
  (gg2 : PySem.W.findIn K (.ref A2) "__getattr__" = some none)
  (nf2 : PySem.W.findIn K (.ref A2) "value" = some none)
  (ac2 : PySem.W.findIn K (.ref A2) "__class__" = some (some (.builtin "object.__class__")))
  (ic2 : PySem.W.findIn K (.ref A2) "__init__" = some (some (.ref fI2)))
  (tc2 : PySem.W.typeIn K (.ref fI2) = some (.type "function"))
  (kc2 : PySem.W.keepIn K (.ref A2) = true)
  (ex2 : PySem.W.subIn K (.ref A2) (.type "BaseException") = some true)
  (ty2 : PySem.W.typeIn K (.ref A2) = some (.type "type"))
  (hd2 : PySem.W.hasDictIn K A2 = true)
  (mo2 : PySem.W.mroIn K A2 (.type "object") = some true)
  (su2 : PySem.W.ks_superIn K A2 A2 "__init__" = some (some (.builtin "ValueError.__init__")))
  (sv2 : PySem.W.subIn K (.ref A2) (.type "ValueError") = some true)
  (se2 : PySem.W.mroIn K A2 (.ref A2) = some true)
  (li2 : K.lookup fI2 = some ⟨ocI2, odI2, .func (PySem.W.ksFn "__init__" "InvalidMoment.__init__" (defArgs (inClass (top 4) 0)) (defBody (inClass (top 4) 0)) (defScope (inClass (top 4) 0)) .none .none docI2 pmI2 anI2 (.ref cda2) ctI2 cc2), slI2⟩)
  (ci2 : PySem.W.codeIn K (.ref cda2) "InvalidMoment.__init__" = true)
  (lc2 : K.lookup cda2 = some ⟨ccl2, cdd2, .fields vs2, ccs2⟩)
  (vf2 : vs2[2]? = some (.str fil2 tf2))
  (fe2 : ((PySem.Challenge.pw_movednames_k09_worlds_of_one_server.main.file : Str) == fil2) = true)
  (lx2 : K.lookup cc2 = some ⟨cl2, cld2, .cell (some (.ref A2)), csl2⟩)
  (xC3 : K.lookup A3 = some (excClassObj nm3 q3 A3 N3 bs3 bm3 true sn3 sub3 ab3 col3 dd3 m03 m13 m23 m33 m53 "ValueError.__new__"))
  (rv3 : PySem.HandSPX.refsVE bm3 = true)
  (sa3 : PySem.W.findIn K (.ref A3) "__setattr__" = some (some (.builtin "object.__setattr__")))
  (ga3 : PySem.W.findIn K (.ref A3) "__getattribute__" = some (some (.builtin "BaseException.__getattribute__")))
  (gg3 : PySem.W.findIn K (.ref A3) "__getattr__" = some none)
  (nf3 : PySem.W.findIn K (.ref A3) "value" = some none)
  (ac3 : PySem.W.findIn K (.ref A3) "__class__" = some (some (.builtin "object.__class__")))
  (ic3 : PySem.W.findIn K (.ref A3) "__init__" = some (some (.ref fI3)))
  (tc3 : PySem.W.typeIn K (.ref fI3) = some (.type "function"))
  (kc3 : PySem.W.keepIn K (.ref A3) = true)
  (ex3 : PySem.W.subIn K (.ref A3) (.type "BaseException") = some true)
  (ty3 : PySem.W.typeIn K (.ref A3) = some (.type "type"))
  (hd3 : PySem.W.hasDictIn K A3 = true)
  (mo3 : PySem.W.mroIn K A3 (.type "object") = some true)
  (su3 : PySem.W.ks_superIn K A3 A3 "__init__" = some (some (.builtin "ValueError.__init__")))
  (sv3 : PySem.W.subIn K (.ref A3) (.type "ValueError") = some true)
  (se3 : PySem.W.mroIn K A3 (.ref A3) = some true)
  (li3 : K.lookup fI3 = some ⟨ocI3, odI3, .func (PySem.W.ksFn "__init__" "InvalidWorld.__init__" (defArgs (inClass (top 5) 0)) (defBody (inClass (top 5) 0)) (defScope (inClass (top 5) 0)) .none .none docI3 pmI3 anI3 (.ref cda3) ctI3 cc3), slI3⟩)
  (ci3 : PySem.W.codeIn K (.ref cda3) "InvalidWorld.__init__" = true)
  (lc3 : K.lookup cda3 = some ⟨ccl3, cdd3, .fields vs3, ccs3⟩)
  (vf3 : vs3[2]? = some (.str fil3 tf3))
  (fe3 : ((PySem.Challenge.pw_movednames_k09_worlds_of_one_server.main.file : Str) == fil3) = true)
  (lx3 : K.lookup cc3 = some ⟨cl3, cld3, .cell (some (.ref A3)), csl3⟩)
  (nsu : PySem.W.nsIn K mainGlobals "super" = some none)
  (ti : PySem.W.nsIn K cStatics "thirdparty.any" = some none)
  (gn : PySem.W.specialIn K (.builtin "object.__class__") "__get__" = some (some (.builtin "getset_descriptor.__get__")))
  (gt : PySem.W.takesIn K (.builtin "object.__class__") = some true)
  (s_1_1 : PySem.W.subIn K (.ref A1) (.ref A1) = some true)
  (s_2_1 : PySem.W.subIn K (.ref A2) (.ref A1) = some false)
  (s_3_1 : PySem.W.subIn K (.ref A3) (.ref A1) = some false)
  : ∃ (fd : FuncData) (C : Ct), C.K = K ∧ (∀ (s : Shared) (u : Value), BindsTo s fd ⟨[u], []⟩ [("_law_script", u)]) ∧ ∀ base : Heap, K.In base → base.Ns mainGlobals mg → FnG PySem.Challenge.pw_movednames_k09_worlds_of_one_server w C mg base 13 fa fd ["_law_script"] m_law := by
  have hfe : fa = f30 := Value.ref.inj (Option.some.inj (hfa.symm.trans (PySem.W.mg_of X G a30)))
  have F0 := fun_mk (st := (inClass (top 27) 0)) l0 c0 k0
  have B0 := F0.binds (ps := ["self"]) fun _ _ _ _ _ _ us hl => match us, hl with | [_], _ => rfl
  have F1 := fun_mk (st := (inClass (top 27) 1)) l1 c1 k1
  have B1 := F1.binds (ps := ["self", "step"]) fun _ _ _ _ _ _ us hl => match us, hl with | [_, _], _ => rfl
  have F2 := fun_mk (st := (inClass (top 27) 2)) l2 c2 k2
  have B2 := F2.binds (ps := ["self", "server"]) fun _ _ _ _ _ _ us hl => match us, hl with | [_, _], _ => rfl
  have F3 := fun_mk (st := (inClass (top 27) 3)) l3 c3 k3
  have B3 := F3.binds (ps := ["self"]) fun _ _ _ _ _ _ us hl => match us, hl with | [_], _ => rfl
  have F4 := fun_mk (st := (top 22)) l4 c4 k4
  have B4 := F4.binds (ps := ["values"]) fun _ _ _ _ _ _ us hl => match us, hl with | [_], _ => rfl
  have F5 := fun_mk (st := (inClass (top 27) 4)) l5 c5 k5
  have B5 := F5.binds (ps := ["self"]) fun _ _ _ _ _ _ us hl => match us, hl with | [_], _ => rfl
  have F6 := fun_mk (st := (inClass (top 28) 10)) l6 c6 k6
  have B6 := F6.binds (ps := ["self"]) fun _ _ _ _ _ _ us hl => match us, hl with | [_], _ => rfl
  have F7 := fun_mk (st := (top 11)) l7 c7 k7
  have B7 := F7.binds (ps := ["value"]) fun _ _ _ _ _ _ us hl => match us, hl with | [_], _ => rfl
  have F8 := fun_mk (st := (inClass (top 28) 13)) l8 c8 k8
  have B8 := F8.binds (ps := ["self", "moment"]) fun _ _ _ _ _ _ us hl => match us, hl with | [_, _], _ => rfl
  have F9 := fun_mk (st := (inClass (top 28) 17)) l9 c9 k9
  have B9 := F9.binds (ps := ["self", "other"]) fun _ _ _ _ _ _ us hl => match us, hl with | [_, _], _ => rfl
  have F10 := fun_mk (st := (top 13)) l10 c10 k10
  have B10 := F10.binds (ps := ["value"]) fun _ _ _ _ _ _ us hl => match us, hl with | [_], _ => rfl
  have F11 := fun_mk (st := (top 17)) l11 c11 k11
  have B11 := F11.binds (ps := ["value"]) fun _ _ _ _ _ _ us hl => match us, hl with | [_], _ => rfl
  have F12 := fun_mk (st := (top 12)) l12 c12 k12
  have B12 := F12.binds (ps := ["value", "least", "most"]) fun _ _ _ _ _ _ us hl => match us, hl with | [_, _, _], _ => rfl
  have F13 := fun_mk (st := (top 14)) l13 c13 k13
  have B13 := F13.binds (ps := ["value"]) fun _ _ _ _ _ _ us hl => match us, hl with | [_], _ => rfl
  have F14 := fun_mk (st := (top 16)) l14 c14 k14
  have B14 := F14.binds (ps := ["value"]) fun _ _ _ _ _ _ us hl => match us, hl with | [_], _ => rfl
  have F15 := fun_mk (st := (top 18)) l15 c15 k15
  have B15 := F15.binds (ps := ["value"]) fun _ _ _ _ _ _ us hl => match us, hl with | [_], _ => rfl
  have F16 := fun_mk (st := (top 19)) l16 c16 k16
  have B16 := F16.binds (ps := ["step"]) fun _ _ _ _ _ _ us hl => match us, hl with | [_], _ => rfl
  have F17 := fun_mk (st := (top 20)) l17 c17 k17
  have B17 := F17.binds (ps := ["step"]) fun _ _ _ _ _ _ us hl => match us, hl with | [_], _ => rfl
  have F18 := fun_mk (st := (top 25)) l18 c18 k18
  have B18 := F18.binds (ps := ["steps"]) fun _ _ _ _ _ _ us hl => match us, hl with | [_], _ => rfl
  have F19 := fun_mk (st := (inClass (top 28) 0)) l19 c19 k19
  have F20 := fun_mk (st := (inClass (top 28) 18)) l20 c20 k20
  have B20 := F20.binds (ps := ["begin"]) fun _ _ _ _ _ _ us hl => match us, hl with | [_], _ => rfl
  have F21 := fun_mk (st := (inClass (top 28) 2)) l21 c21 k21
  have B21 := F21.binds (ps := ["self"]) fun _ _ _ _ _ _ us hl => match us, hl with | [_], _ => rfl
  have F22 := fun_mk (st := (inClass (top 28) 12)) l22 c22 k22
  have B22 := F22.binds (ps := ["self"]) fun _ _ _ _ _ _ us hl => match us, hl with | [_], _ => rfl
  have F23 := fun_mk (st := (top 31)) l23 c23 k23
  have B23 := F23.binds (ps := ["_law_stream_here", "_law_count"]) fun _ _ _ _ _ _ us hl => match us, hl with | [_, _], _ => rfl
  have F24 := fun_mk (st := (top 32)) l24 c24 k24
  have B24 := F24.binds (ps := ["_law_stream_here", "_law_items"]) fun _ _ _ _ _ _ us hl => match us, hl with | [_, _], _ => rfl
  have F25 := fun_mk (st := (top 30)) l25 c25 k25
  have B25 := F25.binds (ps := ["_law_script", "_law_k"]) fun _ _ _ _ _ _ us hl => match us, hl with | [_, _], _ => rfl
  have F26 := fun_mk (st := (top 21)) l26 c26 k26
  have F27 := fun_mk (st := (inClass (top 28) 19)) l27 c27 k27
  have F28 := fun_mk (st := (top 34)) l28 c28 k28
  have B28 := F28.binds (ps := ["_law_name", "_law_answer", "_law_number"]) fun _ _ _ _ _ _ us hl => match us, hl with | [_, _, _], _ => rfl
  have F29 := fun_mk (st := (top 33)) l29 c29 k29
  have B29 := F29.binds (ps := ["_law_stream_here", "_law_count"]) fun _ _ _ _ _ _ us hl => match us, hl with | [_, _], _ => rfl
  have F30 := fun_mk (st := (top 35)) l30 c30 k30
  have B30 := F30.binds (ps := ["_law_script"]) fun _ _ _ _ _ _ us hl => match us, hl with | [_], _ => rfl
  let C : Ct := ⟨K, fun i => match i with | 1 => A1 | 2 => A2 | 3 => A3 | 4 => A4 | 5 => A5 | _ => 0, none⟩
  let fa0 : Nat → Addr := fun i => match i with | 0 => f0 | 1 => f1 | 2 => f2 | 3 => f3 | 4 => f4 | 5 => f5 | 6 => f6 | 7 => f7 | 8 => f8 | 9 => f9 | 10 => f10 | 11 => f11 | 12 => f12 | 13 => f13 | 14 => f14 | 15 => f15 | 16 => f16 | 17 => f17 | 18 => f18 | 19 => f19 | 20 => f20 | 21 => f21 | 22 => f22 | 23 => f23 | 24 => f24 | 25 => f25 | 26 => f26 | 27 => f27 | 28 => f28 | 29 => f29 | 30 => f30 | _ => 0
  let fi0 : Nat → Addr := fun i => match i with | 1 => fI1 | 2 => fI2 | 3 => fI3 | _ => 0
  let fd0 : Nat → FuncData := fun i => match i with | 0 => PySem.W.fnOf "__init__" "Told.__init__" (defArgs (inClass (top 27) 0)) (defBody (inClass (top 27) 0)) (defScope (inClass (top 27) 0)) .none kV0 dc0 pm0 an0 cd0 ct0 | 1 => PySem.W.fnOf "say" "Told.say" (defArgs (inClass (top 27) 1)) (defBody (inClass (top 27) 1)) (defScope (inClass (top 27) 1)) .none kV1 dc1 pm1 an1 cd1 ct1 | 2 => PySem.W.fnOf "is_ready" "Told.is_ready" (defArgs (inClass (top 27) 2)) (defBody (inClass (top 27) 2)) (defScope (inClass (top 27) 2)) .none kV2 dc2 pm2 an2 cd2 ct2 | 3 => PySem.W.fnOf "told_rows" "Told.told_rows" (defArgs (inClass (top 27) 3)) (defBody (inClass (top 27) 3)) (defScope (inClass (top 27) 3)) .none kV3 dc3 pm3 an3 cd3 ct3 | 4 => PySem.W.fnOf "in_order" "in_order" (defArgs (top 22)) (defBody (top 22)) (defScope (top 22)) .none kV4 dc4 pm4 an4 cd4 ct4 | 5 => PySem.W.fnOf "seen" "Told.seen" (defArgs (inClass (top 27) 4)) (defBody (inClass (top 27) 4)) (defScope (inClass (top 27) 4)) .none kV5 dc5 pm5 an5 cd5 ct5 | 6 => PySem.W.fnOf "moments" "World.moments" (defArgs (inClass (top 28) 10)) (defBody (inClass (top 28) 10)) (defScope (inClass (top 28) 10)) .none kV6 dc6 pm6 an6 cd6 ct6 | 7 => PySem.W.fnOf "is_integer" "is_integer" (defArgs (top 11)) (defBody (top 11)) (defScope (top 11)) .none kV7 dc7 pm7 an7 cd7 ct7 | 8 => PySem.W.fnOf "__call__" "World.__call__" (defArgs (inClass (top 28) 13)) (defBody (inClass (top 28) 13)) (defScope (inClass (top 28) 13)) .none kV8 dc8 pm8 an8 cd8 ct8 | 9 => PySem.W.fnOf "__eq__" "World.__eq__" (defArgs (inClass (top 28) 17)) (defBody (inClass (top 28) 17)) (defScope (inClass (top 28) 17)) .none kV9 dc9 pm9 an9 cd9 ct9 | 10 => PySem.W.fnOf "is_word" "is_word" (defArgs (top 13)) (defBody (top 13)) (defScope (top 13)) .none kV10 dc10 pm10 an10 cd10 ct10 | 11 => PySem.W.fnOf "is_servers" "is_servers" (defArgs (top 17)) (defBody (top 17)) (defScope (top 17)) .none kV11 dc11 pm11 an11 cd11 ct11 | 12 => PySem.W.fnOf "is_between" "is_between" (defArgs (top 12)) (defBody (top 12)) (defScope (top 12)) .none kV12 dc12 pm12 an12 cd12 ct12 | 13 => PySem.W.fnOf "is_time" "is_time" (defArgs (top 14)) (defBody (top 14)) (defScope (top 14)) .none kV13 dc13 pm13 an13 cd13 ct13 | 14 => PySem.W.fnOf "is_value" "is_value" (defArgs (top 16)) (defBody (top 16)) (defScope (top 16)) .none kV14 dc14 pm14 an14 cd14 ct14 | 15 => PySem.W.fnOf "is_step" "is_step" (defArgs (top 18)) (defBody (top 18)) (defScope (top 18)) .none kV15 dc15 pm15 an15 cd15 ct15 | 16 => PySem.W.fnOf "check_step" "check_step" (defArgs (top 19)) (defBody (top 19)) (defScope (top 19)) .none kV16 dc16 pm16 an16 cd16 ct16 | 17 => PySem.W.fnOf "servers_of" "servers_of" (defArgs (top 20)) (defBody (top 20)) (defScope (top 20)) .none kV17 dc17 pm17 an17 cd17 ct17 | 18 => PySem.W.fnOf "named_by" "named_by" (defArgs (top 25)) (defBody (top 25)) (defScope (top 25)) .none kV18 dc18 pm18 an18 cd18 ct18 | 19 => PySem.W.fnOf "__init__" "World.__init__" (defArgs (inClass (top 28) 0)) (defBody (inClass (top 28) 0)) (defScope (inClass (top 28) 0)) .none kV19 dc19 pm19 an19 cd19 ct19 | 20 => PySem.W.fnOf "of" "World.of" (defArgs (inClass (top 28) 18)) (defBody (inClass (top 28) 18)) (defScope (inClass (top 28) 18)) .none kV20 dc20 pm20 an20 cd20 ct20 | 21 => PySem.W.fnOf "all_steps" "World.all_steps" (defArgs (inClass (top 28) 2)) (defBody (inClass (top 28) 2)) (defScope (inClass (top 28) 2)) .none kV21 dc21 pm21 an21 cd21 ct21 | 22 => PySem.W.fnOf "servers" "World.servers" (defArgs (inClass (top 28) 12)) (defBody (inClass (top 28) 12)) (defScope (inClass (top 28) 12)) .none kV22 dc22 pm22 an22 cd22 ct22 | 23 => PySem.W.fnOf "_law_draw" "_law_draw" (defArgs (top 31)) (defBody (top 31)) (defScope (top 31)) .none kV23 dc23 pm23 an23 cd23 ct23 | 24 => PySem.W.fnOf "_law_choose" "_law_choose" (defArgs (top 32)) (defBody (top 32)) (defScope (top 32)) .none kV24 dc24 pm24 an24 cd24 ct24 | 25 => PySem.W.fnOf "_law_stream" "_law_stream" (defArgs (top 30)) (defBody (top 30)) (defScope (top 30)) .none kV25 dc25 pm25 an25 cd25 ct25 | 26 => PySem.W.fnOf "ready" "ready" (defArgs (top 21)) (defBody (top 21)) (defScope (top 21)) .none (.ref kD26) dc26 pm26 an26 cd26 ct26 | 27 => PySem.W.fnOf "of_one" "World.of_one" (defArgs (inClass (top 28) 19)) (defBody (inClass (top 28) 19)) (defScope (inClass (top 28) 19)) .none kV27 dc27 pm27 an27 cd27 ct27 | 28 => PySem.W.fnOf "_law_told" "_law_told" (defArgs (top 34)) (defBody (top 34)) (defScope (top 34)) .none kV28 dc28 pm28 an28 cd28 ct28 | 29 => PySem.W.fnOf "_law_words" "_law_words" (defArgs (top 33)) (defBody (top 33)) (defScope (top 33)) .none kV29 dc29 pm29 an29 cd29 ct29 | 30 => PySem.W.fnOf "law" "law" (defArgs (top 35)) (defBody (top 35)) (defScope (top 35)) .none kV30 dc30 pm30 an30 cd30 ct30 | _ => PySem.W.fnOf "" "" (defArgs (top 0)) (defBody (top 0)) (defScope (top 0)) .none .none .none .none none .none .none
  have T : Txt w C mg fa0 fi0 fd0 :=
    { ex := rfl,
      n_all := PySem.W.mg_none_of X G z_all,
      n_any := PySem.W.mg_none_of X G z_any,
      n_bool := PySem.W.mg_none_of X G z_bool,
      n_int := PySem.W.mg_none_of X G z_int,
      n_isinstance := PySem.W.mg_none_of X G z_isinstance,
      n_len := PySem.W.mg_none_of X G z_len,
      n_list := PySem.W.mg_none_of X G z_list,
      n_max := PySem.W.mg_none_of X G z_max,
      n_min := PySem.W.mg_none_of X G z_min,
      n_range := PySem.W.mg_none_of X G z_range,
      n_repr := PySem.W.mg_none_of X G z_repr,
      n_sorted := PySem.W.mg_none_of X G z_sorted,
      n_str := PySem.W.mg_none_of X G z_str,
      n_tuple := PySem.W.mg_none_of X G z_tuple,
      c_LETTERS := ⟨_, PySem.W.mg_of X G v_LETTERS, kv_str⟩,
      c_MOST_LETTERS := ⟨_, PySem.W.mg_of X G v_MOST_LETTERS, kv_int⟩,
      c_MOST_SERVERS := ⟨_, PySem.W.mg_of X G v_MOST_SERVERS, kv_int⟩,
      c_MOST_TIME := ⟨_, PySem.W.mg_of X G v_MOST_TIME, kv_int⟩,
      k_Told_init := k0,
      f_Told_init := F0,
      b_Told_init := B0,
      k_Told_say := k1,
      f_Told_say := F1,
      b_Told_say := B1,
      me_Told_say := ⟨a1, i1, k1⟩,
      k_Told_is_ready := k2,
      f_Told_is_ready := F2,
      b_Told_is_ready := B2,
      me_Told_is_ready := ⟨a2, i2, k2⟩,
      k_Told_told_rows := k3,
      f_Told_told_rows := F3,
      b_Told_told_rows := B3,
      me_Told_told_rows := ⟨a3, i3, k3⟩,
      k_in_order := k4,
      f_in_order := F4,
      g_in_order := PySem.W.mg_of X G a4,
      b_in_order := B4,
      k_Told_seen := k5,
      f_Told_seen := F5,
      b_Told_seen := B5,
      me_Told_seen := ⟨a5, i5, k5⟩,
      k_World_moments := k6,
      f_World_moments := F6,
      b_World_moments := B6,
      me_World_moments := ⟨a6, i6, k6⟩,
      k_is_integer := k7,
      f_is_integer := F7,
      g_is_integer := PySem.W.mg_of X G a7,
      b_is_integer := B7,
      k_World_call := k8,
      f_World_call := F8,
      b_World_call := B8,
      me_World_call := ⟨a8, i8, k8⟩,
      co_World_call := ⟨a8, i8, fi8⟩,
      k_World_eq := k9,
      f_World_eq := F9,
      b_World_eq := B9,
      me_World_eq := ⟨a9, i9, k9⟩,
      k_is_word := k10,
      f_is_word := F10,
      g_is_word := PySem.W.mg_of X G a10,
      b_is_word := B10,
      k_is_servers := k11,
      f_is_servers := F11,
      g_is_servers := PySem.W.mg_of X G a11,
      b_is_servers := B11,
      k_is_between := k12,
      f_is_between := F12,
      g_is_between := PySem.W.mg_of X G a12,
      b_is_between := B12,
      k_is_time := k13,
      f_is_time := F13,
      g_is_time := PySem.W.mg_of X G a13,
      b_is_time := B13,
      k_is_value := k14,
      f_is_value := F14,
      g_is_value := PySem.W.mg_of X G a14,
      b_is_value := B14,
      k_is_step := k15,
      f_is_step := F15,
      g_is_step := PySem.W.mg_of X G a15,
      b_is_step := B15,
      k_check_step := k16,
      f_check_step := F16,
      g_check_step := PySem.W.mg_of X G a16,
      b_check_step := B16,
      k_servers_of := k17,
      f_servers_of := F17,
      g_servers_of := PySem.W.mg_of X G a17,
      b_servers_of := B17,
      k_named_by := k18,
      f_named_by := F18,
      g_named_by := PySem.W.mg_of X G a18,
      b_named_by := B18,
      k_World_init := k19,
      f_World_init := F19,
      sb_World_init := ⟨StX.bind_star1 (B := fun us => bindArgs _ ⟨us, []⟩) (fun _ => rfl) (fun _ _ _ => rfl)⟩,
      k_World_of := k20,
      f_World_of := F20,
      b_World_of := B20,
      sm_World_of := ⟨⟨_, _, _, sgr5, sga5, a20, pc20⟩, k20⟩,
      k_World_all_steps := k21,
      f_World_all_steps := F21,
      b_World_all_steps := B21,
      me_World_all_steps := ⟨a21, i21, k21⟩,
      k_World_servers := k22,
      f_World_servers := F22,
      b_World_servers := B22,
      me_World_servers := ⟨a22, i22, k22⟩,
      k__law_draw := k23,
      f__law_draw := F23,
      g__law_draw := PySem.W.mg_of X G a23,
      b__law_draw := B23,
      k__law_choose := k24,
      f__law_choose := F24,
      g__law_choose := PySem.W.mg_of X G a24,
      b__law_choose := B24,
      k__law_stream := k25,
      f__law_stream := F25,
      g__law_stream := PySem.W.mg_of X G a25,
      b__law_stream := B25,
      k_ready := k26,
      f_ready := F26,
      g_ready := PySem.W.mg_of X G a26,
      kc_ready_value_time := KBD.suffix (kws := [("answer_time", V.non)]) (show L2.FunD K "ready" "ready" (defArgs (top 21)) (defBody (top 21)) (defScope (top 21)) [] [("answer_time", V.non)] _ _ from ⟨⟨_, _, _, _, _, _, _, _, _, _, rfl, l26, c26, .inl ⟨rfl, rfl⟩, .inr ⟨_, rfl, fun q hq => match q, hq with | _, .head _ => ⟨_, kd26_answer_time, rfl⟩⟩⟩, k26⟩) 2 ["value", "time"] [("answer_time", V.non)] [.non] (by simp) (fun q hq => match q, hq with | _, .head _ => .head _) (fun _ _ => .cons rfl (.nil)) rfl fun Da doc pm an cdv ct us mv ws l1 l2 l3 => match us, l1 with | [_, _], _ => match ws, l3 with | [_, _], _ => match mv, l2 with | [_], _ => ⟨_, _, _, _, _, _, rfl, rfl, rfl⟩,
      k_World_of_one := k27,
      f_World_of_one := F27,
      kc_World_of_one_time := .all rfl fun us ws l1 l3 => match us, l1 with | [_, _], _ => match ws, l3 with | [_], _ => rfl,
      sm_World_of_one := ⟨⟨_, _, _, sgr5, sga5, a27, pc27⟩, k27⟩,
      k__law_told := k28,
      f__law_told := F28,
      g__law_told := PySem.W.mg_of X G a28,
      b__law_told := B28,
      k__law_words := k29,
      f__law_words := F29,
      g__law_words := PySem.W.mg_of X G a29,
      b__law_words := B29,
      k_law := k30,
      f_law := F30,
      g_law := PySem.W.mg_of X G a30,
      b_law := B30,
      cl_Told := ⟨opg4, ohd4, opo4, osa4⟩,
      g_Told := PySem.W.mg_of X G gY4,
      mk_Told := ⟨omk4, a0, i0, okc4⟩,
      cl_World := ⟨opg5, ohd5, opo5, osa5⟩,
      g_World := PySem.W.mg_of X G gY5,
      mk_World := ⟨omk5, a19, i19, okc5⟩,
      no_World := fun a => match a with | .non => oki5_NoneType | .bl => oki5_bool | .int => oki5_int | .str => oki5_str | .tup => oki5_tuple | .lst => oki5_list | .dct => oki5_dict,
      sub_World := ⟨fun j r e => (by
        unfold sub_World at e
        split at e
        · cases e; exact ⟨⟨⟨opg4, ohd4, opo4, osa4⟩, oha4, gn, gt, ohm4⟩, oks4_5⟩
        · cases e; exact ⟨⟨⟨opg5, ohd5, opo5, osa5⟩, oha5, gn, gt, ohm5⟩, oks5_5⟩
        · cases e)⟩,
      q_World := ⟨a9, i9⟩,
      nf_World := ⟨fun a => match a with | .non => onf5_NoneType | .bl => onf5_bool | .int => onf5_int | .str => onf5_str | .tup => onf5_tuple | .lst => onf5_list | .dct => onf5_dict, fun j e => (by cases (of_decide_eq_true e); exact ⟨⟨⟨opg5, ohd5, opo5, osa5⟩, oha5, gn, gt, ohm5⟩, onf5_own⟩)⟩,
      fl_answerings := ⟨fun k e => (by
        have q : k = 4 := by simpa [fl_answerings] using e
        rcases q with rfl
        · exact ⟨⟨opg4, ohd4, opo4, osa4⟩, on4_answerings⟩)⟩,
      fl_first := ⟨fun k e => (by
        have q : k = 5 := by simpa [fl_first] using e
        rcases q with rfl
        · exact ⟨⟨opg5, ohd5, opo5, osa5⟩, on5_first⟩)⟩,
      fl_gone := ⟨fun k e => (by
        have q : k = 4 := by simpa [fl_gone] using e
        rcases q with rfl
        · exact ⟨⟨opg4, ohd4, opo4, osa4⟩, on4_gone⟩)⟩,
      fl_parent := ⟨fun k e => (by
        have q : k = 4 := by simpa [fl_parent] using e
        rcases q with rfl
        · exact ⟨⟨opg4, ohd4, opo4, osa4⟩, on4_parent⟩)⟩,
      fl_running := ⟨fun k e => (by
        have q : k = 4 := by simpa [fl_running] using e
        rcases q with rfl
        · exact ⟨⟨opg4, ohd4, opo4, osa4⟩, on4_running⟩)⟩,
      fl_said := ⟨fun k e => (by
        have q : k = 5 := by simpa [fl_said] using e
        rcases q with rfl
        · exact ⟨⟨opg5, ohd5, opo5, osa5⟩, on5_said⟩)⟩,
      fl_tellings := ⟨fun k e => (by
        have q : k = 4 := by simpa [fl_tellings] using e
        rcases q with rfl
        · exact ⟨⟨opg4, ohd4, opo4, osa4⟩, on4_tellings⟩)⟩,
      g_InvalidStep := PySem.W.mg_of X G gY1,
      e_InvalidStep := { gC := PySem.W.mg_of X G gY1, cls := ⟨_, _, _, _, _, _, _, _, _, _, _, _, _, _, _, xC1, rv1⟩, sa := sa1, noN := nf1, iC := ic1, tC := tc1, kC := kc1, exC := ex1, tyC := ty1, su := su1, opq := ti, sv := sv1, se := se1, ms := PySem.W.mg_none_of X G nsu, top := by rfl, fn := ⟨_, _, _, _, _, _, _, _, _, _, _, _, _, _, _, _, _, _, _, _, _, _, _, _, li1, ci1, ⟨_, fun env => rfl⟩, ⟨_, _, _, _, _, _, lc1, vf1, fe1⟩, _, _, _, lx1⟩, k1 := by decide, k2 := by decide, k3 := by decide, k4 := by decide, k5 := by decide, bi := fun _ _ _ _ _ _ _ _ _ _ _ _ => by rfl },
      e_InvalidMoment := { gC := PySem.W.mg_of X G gY2, cls := ⟨_, _, _, _, _, _, _, _, _, _, _, _, _, _, _, xC2, rv2⟩, sa := sa2, noN := nf2, iC := ic2, tC := tc2, kC := kc2, exC := ex2, tyC := ty2, su := su2, opq := ti, sv := sv2, se := se2, ms := PySem.W.mg_none_of X G nsu, top := by rfl, fn := ⟨_, _, _, _, _, _, _, _, _, _, _, _, _, _, _, _, _, _, _, _, _, _, _, _, li2, ci2, ⟨_, fun env => rfl⟩, ⟨_, _, _, _, _, _, lc2, vf2, fe2⟩, _, _, _, lx2⟩, k1 := by decide, k2 := by decide, k3 := by decide, k4 := by decide, k5 := by decide, bi := fun _ _ _ _ _ _ _ _ _ _ _ _ => by rfl },
      e_InvalidWorld := { gC := PySem.W.mg_of X G gY3, cls := ⟨_, _, _, _, _, _, _, _, _, _, _, _, _, _, _, xC3, rv3⟩, sa := sa3, noN := nf3, iC := ic3, tC := tc3, kC := kc3, exC := ex3, tyC := ty3, su := su3, opq := ti, sv := sv3, se := se3, ms := PySem.W.mg_none_of X G nsu, top := by rfl, fn := ⟨_, _, _, _, _, _, _, _, _, _, _, _, _, _, _, _, _, _, _, _, _, _, _, _, li3, ci3, ⟨_, fun env => rfl⟩, ⟨_, _, _, _, _, _, lc3, vf3, fe3⟩, _, _, _, lx3⟩, k1 := by decide, k2 := by decide, k3 := by decide, k4 := by decide, k5 := by decide, bi := fun _ _ _ _ _ _ _ _ _ _ _ _ => by rfl },
      mx_InvalidStep := ⟨fun j b e => (by
        unfold mt_InvalidStep at e
        split at e
        · cases e; exact PySem.W.exm_ref ex1 hd1 ty1 s_1_1
        · cases e; exact PySem.W.exm_ref ex1 hd1 ty1 s_2_1
        · cases e; exact PySem.W.exm_ref ex1 hd1 ty1 s_3_1
        · cases e)⟩,
      xf_InvalidStep := fun {j} q => (by
        unfold mt_InvalidStep at q
        split at q
        · cases q; exact ⟨ga1, gg1, ex1, hd1⟩
        · cases q
        · cases q
        · cases q),
      xn_InvalidStep := fun {j} q => (by
        unfold mt_InvalidStep at q
        split at q
        · cases q; exact nf1
        · cases q
        · cases q
        · cases q),
      xi_InvalidStep := fun {j} q => (by
        unfold mt_InvalidStep at q
        split at q
        · cases q; exact ⟨ga1, gg1, ex1, hd1, ac1, gn, gt, mo1⟩
        · cases q
        · cases q
        · cases q) }
  exact ⟨fd0 30, C, rfl, fun s u => .of_eq rfl, fun base _ _ => by rw [hfe]; exact ok_law (fa := fa0) (fi := fi0) (fd := fd0) T⟩
end Lw
set_option Elab.async false
set_option linter.all false
set_option maxRecDepth 100000
set_option maxHeartbeats 2000000
/-! # Plain tools: mirrors run -/
namespace DL
open PySem L2
/-- a body as a program with an answer -/
def runS (b : SM) (env : LE) : M D := fun s => endFn (b env s)
theorem mFn_run (n : Nat) (b : SM) (ds : List D) : mFn n b ds = runS b (ent n ds) := rfl
section
variable {α : Type} {env : LE} {n : SM} {i : Nat}
theorem endFn_sE (m : LE → M α) (k : α → SM) : (fun s => endFn (sE m k env s)) = (m env >>= fun d => runS (k d) env) := by
  funext s
  unfold sE
  show endFn (match m env s with | .ok d s' => k d env s' | .exc x fs s' => some (.xc x fs env, s') | .stuck => none) = (m env s).bind fun d => runS (k d) env
  cases m env s <;> rfl
theorem seq_sE (m : LE → M α) (k : α → SM) (n : SM) : sSeq (sE m k) n = sE m fun d => sSeq (k d) n := by
  funext env s
  unfold sSeq sE
  cases m env s <;> rfl
theorem runS_sE (m : LE → M α) (k : α → SM) : runS (sE m k) env = (m env >>= fun d => runS (k d) env) := endFn_sE m k
theorem runS_assoc (a b c : SM) : runS (sSeq (sSeq a b) c) env = runS (sSeq a (sSeq b c)) env := by
  funext s
  unfold runS sSeq
  cases a env s with
  | none => rfl
  | some p => obtain ⟨f, s'⟩ := p; cases f <;> rfl
theorem runS_next : runS (sSeq sNext n) env = runS n env := rfl
theorem runS_end : runS sNext env = pure .non := rfl
theorem runS_ret (m : LE → M D) : runS (sRet m) env = m env := by
  unfold sRet
  rw [runS_sE]
  funext s
  show (m env s).bind (fun d s => .ok d s) = m env s
  cases m env s <;> rfl
theorem runS_retS (m : LE → M D) : runS (sSeq (sRet m) n) env = m env := by
  unfold sRet
  rw [seq_sE, runS_sE]
  funext s
  show (m env s).bind (fun d s => .ok d s) = m env s
  cases m env s <;> rfl
theorem runS_set (m : LE → M D) : runS (sSeq (sSet i m) n) env = (m env >>= fun d => runS n (env.set i (some (.val d)))) := by
  unfold sSet
  rw [seq_sE, runS_sE]
  rfl
theorem runS_own (m : LE → M O) : runS (sSeq (sOwn i m) n) env = (m env >>= fun o => runS n (env.set i (some (.own o)))) := by
  unfold sOwn
  rw [seq_sE, runS_sE]
  rfl
theorem runS_expr (m : LE → M D) : runS (sSeq (sExpr m) n) env = (m env >>= fun _ => runS n env) := by
  unfold sExpr
  rw [seq_sE, runS_sE]
  rfl
theorem runS_exprE (m : LE → M D) : runS (sExpr m) env = (m env >>= fun _ => pure .non) := by
  unfold sExpr
  rw [runS_sE]
  rfl
theorem runS_if (t : LE → M Bool) (a b : SM) : runS (sIf t a b) env = (t env >>= fun c => if c = true then runS a env else runS b env) := by
  unfold sIf
  rw [runS_sE]
  congr 1
  funext c
  cases c <;> rfl
theorem runS_ifS (t : LE → M Bool) (a b : SM) : runS (sSeq (sIf t a b) n) env = (t env >>= fun c => if c = true then runS (sSeq a n) env else runS (sSeq b n) env) := by
  unfold sIf
  rw [seq_sE, runS_sE]
  congr 1
  funext c
  cases c <;> rfl
theorem runS_raise (k : Nat) (f : Str) (m : LE → M D) : runS (sSeq (sRaise k f m) n) env = (m env >>= fun d => mRaise (.own k) [(f, d)]) := by
  unfold sRaise
  rw [seq_sE, runS_sE]
  rfl
theorem runS_raiseE (k : Nat) (f : Str) (m : LE → M D) : runS (sRaise k f m) env = (m env >>= fun d => mRaise (.own k) [(f, d)]) := by
  unfold sRaise
  rw [runS_sE]
  rfl
def optE {α β : Type} (o : Option α) (f : α → M β) : M β := match o with
  | some a => f a
  | none => mStuck
theorem runS_asg (m : LE → M D) (g : GM) : runS (sSeq (sAsg m g) n) env = (m env >>= fun d => optE (g d env) fun env' => runS n env') := by
  unfold sAsg
  rw [seq_sE, runS_sE]
  congr 1
  funext d s
  unfold runS sSeq optE
  dsimp only
  cases g d env <;> rfl
theorem runS_par (i j : Nat) (m : LE → M (List D)) : runS (sSeq (sPar i j m) n) env = (m env >>= fun ds => match ds with
    | [d, e] => runS n ((env.set i (some (.val d))).set j (some (.val e)))
    | _ => mStuck) := by
  unfold sPar
  rw [seq_sE, runS_sE]
  congr 1
  funext ds s
  match ds with
  | [] => rfl
  | [_] => rfl
  | [_, _] => rfl
  | _ :: _ :: _ :: _ => rfl
def setIxM (o i d : D) : M Unit := fun s => match setIx o i d s with
  | some s' => .ok () s'
  | none => .stuck
theorem runS_setix (mo mi me : LE → M D) : runS (sSeq (sSetIx mo mi me) n) env = (me env >>= fun d => mo env >>= fun o => mi env >>= fun i => setIxM o i d >>= fun _ => runS n env) := by
  unfold sSetIx
  rw [seq_sE, runS_sE]
  congr 1; funext d
  rw [seq_sE, runS_sE]
  congr 1; funext o
  rw [seq_sE, runS_sE]
  congr 1; funext i s
  unfold runS sSeq setIxM
  rw [bind_def]
  dsimp only
  cases setIx o i d s <;> rfl
theorem runS_frz (m : SM) : runS (sSeq (sFrz i m) n) env = runS (sSeq m n) (frz i env) := rfl
theorem runS_frzE (m : SM) : runS (sFrz i m) env = runS m (frz i env) := rfl
theorem runS_app (m : LE → M D) {ds : List D} (h : env[i]? = some (some (.own (.lst ds)))) : runS (sSeq (sApp i m) n) env = (m env >>= fun d => if szOk ds.length = true then runS n (env.set i (some (.own (.lst (ds ++ [d]))))) else mStuck) := by
  have e : sApp i m env = sE m (fun d env s => if szOk ds.length = true then some (.nx (env.set i (some (.own (.lst (ds ++ [d]))))), s) else none) env := by
    funext s
    unfold sApp
    rw [h]
  funext s
  unfold runS sSeq
  rw [e]
  show endFn (match (sE m _ env s : SR) with | some (.nx env', s') => n env' s' | r => r) = (m env s).bind _
  unfold sE
  cases m env s with
  | ok d s' => cases szOk ds.length <;> rfl
  | exc x fs s' => rfl
  | stuck => rfl
end
/-! ### what holds of a run: from each store of I an answer of P, and a store of I -/
def Tr {α : Type} (I : S → Prop) (m : M α) (P : α → Prop) : Prop := ∀ s, I s → ∃ a s', m s = .ok a s' ∧ P a ∧ I s'
section
variable {α β : Type} {I : S → Prop}
theorem Tr.pure {a : α} {P : α → Prop} (h : P a) : Tr I (Pure.pure a) P := fun s hs => ⟨a, s, rfl, h, hs⟩
theorem Tr.bind {m : M α} {f : α → M β} {P : α → Prop} {Q : β → Prop} (h : Tr I m P) (k : ∀ a, P a → Tr I (f a) Q) : Tr I (m >>= f) Q := fun s hs => by
  obtain ⟨a, s', e, p, hs'⟩ := h s hs
  obtain ⟨b, s2, e2, q, hs2⟩ := k a p s' hs'
  exact ⟨b, s2, by rw [bind_def, e]; exact e2, q, hs2⟩
theorem Tr.imp {m : M α} {P Q : α → Prop} (h : Tr I m P) (k : ∀ a, P a → Q a) : Tr I m Q := fun s hs => by
  obtain ⟨a, s', e, p, hs'⟩ := h s hs
  exact ⟨a, s', e, k a p, hs'⟩
theorem Tr.ite {c : Bool} {m n : M α} {P : α → Prop} (h : c = true → Tr I m P) (k : c = false → Tr I n P) : Tr I (if c = true then m else n) P := by
  cases c with
  | true => exact h rfl
  | false => exact k rfl
theorem Tr.guard {c : Bool} {P : Unit → Prop} (h : c = true) (p : P ()) : Tr I (guardM c) P := by
  subst h
  exact Tr.pure p
theorem Tr.opt {o : Option α} {a : α} {P : α → Prop} (h : o = some a) (p : P a) : Tr I (optM o) P := by
  subst h
  exact Tr.pure p
end
end DL
set_option Elab.async false
set_option linter.all false
set_option maxRecDepth 100000
set_option maxHeartbeats 2000000
/-! # Plain tools: operators on data -/
namespace DL
open PySem L2
section
variable {α : Type} {i j : Int} {a b : Str}
theorem oInt_int : oInt (.int i) = pure (.int i) := rfl
theorem oInt_bl {b : Bool} : oInt (.bl b) = pure (.int (if b then 1 else 0)) := rfl
theorem oSub_int : oSub (.int i) (.int j) = pure (.int (i - j)) := rfl
theorem oAdd_int : oAdd (.int i) (.int j) = pure (.int (i + j)) := rfl
theorem oMul_int : oMul (.int i) (.int j) = (guardM (mulOk i j) >>= fun _ => pure (.int (i * j))) := rfl
theorem oMod_int : oMod (.int i) (.int j) = (guardM (decide (0 < j)) >>= fun _ => pure (.int (i % j))) := rfl
theorem oDiv_int : oDiv (.int i) (.int j) = (guardM (divOk i j) >>= fun _ => pure (.int (i / j))) := rfl
theorem oPow_int : oPow (.int i) (.int j) = (guardM (powOk i j) >>= fun _ => pure (.int (i ^ j.toNat))) := rfl
theorem oNeg_int : oNeg (.int i) = pure (.int (-i)) := rfl
theorem oGt_int : oGt (.int i) (.int j) = pure (.bl (decide (j < i))) := rfl
theorem oGe_int : oGe (.int i) (.int j) = pure (.bl (decide (j ≤ i))) := rfl
theorem oLe_int : oLe (.int i) (.int j) = pure (.bl (decide (i ≤ j))) := rfl
theorem oLt_int : oLt (.int i) (.int j) = pure (.bl (decide (i < j))) := rfl
theorem oMax2_int : oMax2 (.int i) (.int j) = pure (.int (if j > i then j else i)) := rfl
theorem oMin2_int : oMin2 (.int i) (.int j) = pure (.int (if j < i then j else i)) := rfl
theorem asB_bl {b : Bool} : asB (.bl b) = pure b := rfl
theorem guard_true {c : Bool} (h : c = true) {f : Unit → M α} : (guardM c >>= f) = f () := by subst h; rfl
theorem guard_t {f : Unit → M α} : (guardM true >>= f) = f () := rfl
theorem opt_some {β : Type} {x : β} {f : β → M α} : (optM (some x) >>= f) = f x := rfl
theorem optM_some {β : Type} {x : β} : (optM (some x) : M β) = pure x := rfl
theorem if_t {m n : M α} : (if true = true then m else n) = m := if_pos rfl
theorem if_f {m n : M α} : (if false = true then m else n) = n := if_neg (by decide)
/-- places in a list of a cell -/
theorem oIx_loc {s : S} {n : Nat} {ds : List D} {d : D} {f : D → M α} (hs : s[n]? = some (some (.lst ds))) (h : atI ds i = some d) : (oIx (.loc n) (.int i) >>= f) s = f d s := by
  have e : (rdL (.loc n)) s = .ok ds s := by
    show (match s[n]? with | some (some (.lst ds)) => R.ok ds s | _ => .stuck) = _
    rw [hs]
  show (((rdL (.loc n)) s).bind fun ds => optM (atI ds i)).bind f = f d s
  rw [e]
  show ((optM (atI ds i) : M D) s).bind f = f d s
  rw [h]
  rfl
theorem setIx_loc {s : S} {n k : Nat} {ds : List D} {d : D} {f : Unit → M α} (hs : s[n]? = some (some (.lst ds))) (h : ixN ds.length i = some k) : (setIxM (.loc n) (.int i) d >>= f) s = f () (s.set n (some (.lst (ds.set k d)))) := by
  have e : setIx (.loc n) (.int i) d s = some (s.set n (some (.lst (ds.set k d)))) := by
    show (match s[n]? with | some (some (.lst ds)) => (ixN ds.length i).map fun j => s.set n (some (.lst (ds.set j d))) | _ => none) = _
    rw [hs]
    show (ixN ds.length i).map _ = _
    rw [h]
    rfl
  show (match setIx (.loc n) (.int i) d s with | some s' => R.ok () s' | none => .stuck).bind f = _
  rw [e]
  rfl
theorem oIx_lst {ds : List D} : oIx (.lst ds) (.int i) = optM (atI ds i) := rfl
theorem oIx_tup {ds : List D} : oIx (.tup ds) (.int i) = optM (atI ds i) := rfl
theorem ixN_nat {n k : Nat} (h : k < n) : ixN n (k : Int) = some k := by
  unfold ixN
  rw [if_pos (Int.natCast_nonneg k), if_pos (by omega)]
  rfl
theorem atI_nat {β : Type} {l : List β} {k : Nat} {x : β} (h : l[k]? = some x) : atI l (k : Int) = some x := by
  unfold atI
  rw [ixN_nat (List.getElem?_eq_some_iff.mp h).1]
  exact h
theorem atI_lt {β : Type} {l : List β} {i : Int} (h0 : 0 ≤ i) (h1 : i < l.length) : ∃ x, atI l i = some x ∧ x ∈ l := by
  obtain ⟨k, rfl⟩ := Int.eq_ofNat_of_zero_le h0
  have hk : k < l.length := by omega
  exact ⟨l[k], atI_nat (List.getElem?_eq_getElem hk), List.getElem_mem hk⟩
theorem set_at {s : S} {n : Nat} {x y : Option O} (h : s[n]? = some x) : (s.set n y)[n]? = some y := List.getElem?_set_self (List.getElem?_eq_some_iff.mp h).1
end
end DL
set_option Elab.async false
set_option linter.all false
set_option maxRecDepth 100000
set_option maxHeartbeats 2000000
/-! # Plain tools: comprehensions, loops -/
namespace DL
open PySem L2
section
variable {I : S → Prop} {g : GM} {t : LE → M Bool} {e : LE → M D} {env : LE}
theorem Tr.noX {α : Type} {m : M α} {P : α → Prop} (h : Tr I m P) : Tr I (noX m) P := fun s hs => by
  obtain ⟨a, s', q, p, i⟩ := h s hs
  exact ⟨a, s', by unfold DL.noX; rw [q], p, i⟩
theorem noX_pure {α : Type} {a : α} : (noX (pure a : M α)) = pure a := rfl
/-- each turn gives an item of P -/
theorem Tr.lc {P : D → Prop} : ∀ (ds acc : List D), (∀ d ∈ ds, ∃ env1, g d env = some env1 ∧ Tr I (e env1) P) → acc.length + ds.length ≤ 1000000 →
    Tr I (lcM g tTrue e env ds acc) (fun r => r.length = acc.length + ds.length ∧ ∀ x ∈ r, x ∈ acc ∨ P x)
  | [], acc, _, _ => Tr.pure ⟨rfl, fun x hx => .inl hx⟩
  | d :: ds, acc, h, hz => by
    obtain ⟨env1, e1, h1⟩ := h d (by simp)
    have hz' : acc.length + (ds.length + 1) ≤ 1000000 := by simpa using hz
    show Tr I (match g d env with | none => mStuck | some env1 => tTrue env1 >>= fun b => if b = true then e env1 >>= fun y => guardM (szOk acc.length) >>= fun _ => lcM g tTrue e env ds (acc ++ [y]) else lcM g tTrue e env ds acc) _
    rw [e1]
    show Tr I (e env1 >>= fun y => guardM (szOk acc.length) >>= fun _ => lcM g tTrue e env ds (acc ++ [y])) _
    refine Tr.bind h1 fun y hy => ?_
    refine Tr.bind (Tr.guard (P := fun _ => True) (decide_eq_true (by omega)) trivial) fun _ _ => ?_
    refine (Tr.lc ds (acc ++ [y]) (fun d' hd' => h d' (List.mem_cons_of_mem _ hd')) (by simp; omega)).imp fun r hr => ?_
    obtain ⟨r1, r2⟩ := hr
    refine ⟨by rw [r1]; simp; omega, fun x hx => ?_⟩
    rcases r2 x hx with q | q
    · rcases List.mem_append.mp q with q | q
      · exact .inl q
      · have : x = y := by simpa using q
        subst this
        exact .inr hy
    · exact .inr q
/-- a comprehension that is a function of the items -/
theorem lcM_pure {E : D → LE} {p : D → Bool} {f : D → D} : ∀ (ds acc : List D), (∀ d ∈ ds, g d env = some (E d) ∧ t (E d) = pure (p d) ∧ (p d = true → e (E d) = pure (f d))) → acc.length + ds.length ≤ 1000000 →
    lcM g t e env ds acc = pure (acc ++ (ds.filter p).map f)
  | [], acc, _, _ => by simp only [lcM, List.filter_nil, List.map_nil, List.append_nil]
  | d :: ds, acc, h, hz => by
    obtain ⟨e1, e2, e3⟩ := h d (by simp)
    have hz' : acc.length + (ds.length + 1) ≤ 1000000 := by simpa using hz
    have ih := fun acc' hz => lcM_pure (E := E) (p := p) (f := f) ds acc' (fun d' hd' => h d' (List.mem_cons_of_mem _ hd')) hz
    show (match g d env with | none => mStuck | some env1 => t env1 >>= fun b => if b = true then e env1 >>= fun y => guardM (szOk acc.length) >>= fun _ => lcM g t e env ds (acc ++ [y]) else lcM g t e env ds acc) = _
    rw [e1]
    show (t (E d) >>= fun b => if b = true then e (E d) >>= fun y => guardM (szOk acc.length) >>= fun _ => lcM g t e env ds (acc ++ [y]) else lcM g t e env ds acc) = _
    rw [e2, bind_pure']
    cases hp : p d with
    | true =>
      rw [if_t, e3 hp, bind_pure', guard_true (show szOk acc.length = true from decide_eq_true (by omega)), ih _ (by simp; omega), List.filter_cons, hp]
      simp
    | false =>
      rw [if_f, ih _ (by omega), List.filter_cons, hp]
      simp
/-! ### for, in a body -/
/-- the rest behind a loop -/
def loopR (g : GM) (b n : SM) : List D → LE → M D
  | ds, env => runS (sSeq (forM' g b ds) n) env
theorem runS_for {mi : LE → M (List D)} {b n : SM} : runS (sSeq (sFor mi g b) n) env = (mi env >>= fun ds => loopR g b n ds env) := by
  unfold sFor
  rw [seq_sE, runS_sE]
  rfl
theorem runS_forE {mi : LE → M (List D)} {b : SM} : runS (sFor mi g b) env = (mi env >>= fun ds => runS (forM' g b ds) env) := by
  unfold sFor
  rw [runS_sE]
theorem loop_nil {b n : SM} : loopR g b n [] env = runS n env := rfl
/-- a turn that ends as it should, with the slots env' -/
theorem loop_turn {b n : SM} {d : D} {ds : List D} {env1 env' : LE} {s s' : S} (hg : g d env = some env1) (hb : b env1 s = some (.nx env', s')) : loopR g b n (d :: ds) env s = loopR g b n ds env' s' := by
  show endFn (match (match g d env with | none => none | some env1 => match b env1 s with | some (.nx e, s') => forM' g b ds e s' | some (.ct e, s') => forM' g b ds e s' | some (.bk e, s') => some (.nx e, s') | r => r) with | some (.nx env', s') => n env' s' | r => r) = _
  rw [hg]
  show endFn (match (match b env1 s with | some (.nx e, s') => forM' g b ds e s' | some (.ct e, s') => forM' g b ds e s' | some (.bk e, s') => some (.nx e, s') | r => r) with | some (.nx env', s') => n env' s' | r => r) = _
  rw [hb]
  rfl
/-- a turn that answers -/
theorem loop_ret {b n : SM} {d x : D} {ds : List D} {env1 : LE} {s s' : S} (hg : g d env = some env1) (hb : b env1 s = some (.rt x, s')) : loopR g b n (d :: ds) env s = .ok x s' := by
  show endFn (match (match g d env with | none => none | some env1 => match b env1 s with | some (.nx e, s') => forM' g b ds e s' | some (.ct e, s') => forM' g b ds e s' | some (.bk e, s') => some (.nx e, s') | r => r) with | some (.nx env', s') => n env' s' | r => r) = _
  rw [hg]
  show endFn (match (match b env1 s with | some (.nx e, s') => forM' g b ds e s' | some (.ct e, s') => forM' g b ds e s' | some (.bk e, s') => some (.nx e, s') | r => r) with | some (.nx env', s') => n env' s' | r => r) = _
  rw [hb]
  rfl
/-- a turn that raises -/
theorem loop_exc {b n : SM} {d : D} {ds : List D} {env1 env' : LE} {s s' : S} {k : XC} {fs : List (Str × D)} (hg : g d env = some env1) (hb : b env1 s = some (.xc k fs env', s')) : loopR g b n (d :: ds) env s = .exc k fs s' := by
  show endFn (match (match g d env with | none => none | some env1 => match b env1 s with | some (.nx e, s') => forM' g b ds e s' | some (.ct e, s') => forM' g b ds e s' | some (.bk e, s') => some (.nx e, s') | r => r) with | some (.nx env', s') => n env' s' | r => r) = _
  rw [hg]
  show endFn (match (match b env1 s with | some (.nx e, s') => forM' g b ds e s' | some (.ct e, s') => forM' g b ds e s' | some (.bk e, s') => some (.nx e, s') | r => r) with | some (.nx env', s') => n env' s' | r => r) = _
  rw [hb]
  rfl
end
end DL
set_option Elab.async false
set_option linter.all false
set_option maxRecDepth 100000
set_option maxHeartbeats 2000000
/-! # Plain tools: what holds behind a body -/
namespace DL
open PySem L2
/-- the body goes on to its next, and there Q holds -/
def Wp (b : SM) (env : LE) (s : S) (Q : LE → S → Prop) : Prop := ∃ env' s', b env s = some (.nx env', s') ∧ Q env' s'
section
variable {a b n : SM} {env : LE} {s s' : S} {Q R : LE → S → Prop} {i j : Nat}
theorem Wp.imp (h : Wp a env s R) (k : ∀ e t, R e t → Q e t) : Wp a env s Q := by
  obtain ⟨e, t, q, r⟩ := h
  exact ⟨e, t, q, k e t r⟩
theorem Wp.next (h : Q env s) : Wp sNext env s Q := ⟨env, s, rfl, h⟩
theorem Wp.seq (h : Wp a env s fun e t => Wp b e t Q) : Wp (sSeq a b) env s Q := by
  obtain ⟨e, t, q, e2, t2, q2, k⟩ := h
  refine ⟨e2, t2, ?_, k⟩
  unfold sSeq
  rw [q]
  exact q2
theorem Wp.sE {α : Type} {m : LE → M α} {k : α → SM} {x : α} (h : m env s = .ok x s') (q : Wp (k x) env s' Q) : Wp (DL.sE m k) env s Q := by
  obtain ⟨e, t, q1, q2⟩ := q
  refine ⟨e, t, ?_, q2⟩
  unfold DL.sE
  rw [h]
  exact q1
theorem Wp.set {m : LE → M D} {d : D} (h : m env s = .ok d s') (q : Q (env.set i (some (.val d))) s') : Wp (sSet i m) env s Q := Wp.sE h ⟨_, _, rfl, q⟩
theorem Wp.own {m : LE → M O} {d : O} (h : m env s = .ok d s') (q : Q (env.set i (some (.own d))) s') : Wp (sOwn i m) env s Q := Wp.sE h ⟨_, _, rfl, q⟩
theorem Wp.expr {m : LE → M D} {d : D} (h : m env s = .ok d s') (q : Q env s') : Wp (sExpr m) env s Q := Wp.sE h ⟨_, _, rfl, q⟩
theorem Wp.if_t {t : LE → M Bool} (h : t env s = .ok true s') (q : Wp a env s' Q) : Wp (sIf t a b) env s Q := Wp.sE h q
theorem Wp.if_f {t : LE → M Bool} (h : t env s = .ok false s') (q : Wp b env s' Q) : Wp (sIf t a b) env s Q := Wp.sE h q
/-- an if that is not gone into -/
theorem Wp.pass {t : LE → M Bool} (h : t env s = .ok false s') (q : Q env s') : Wp (sIf t a sNext) env s Q := Wp.sE h (Wp.next q)
theorem Wp.frz {m : SM} (q : Wp m (DL.frz i env) s Q) : Wp (sFrz i m) env s Q := q
theorem Wp.par {m : LE → M (List D)} {d e : D} (h : m env s = .ok [d, e] s') (q : Q ((env.set i (some (.val d))).set j (some (.val e))) s') : Wp (sPar i j m) env s Q := Wp.sE h ⟨_, _, rfl, q⟩
theorem Wp.for {mi : LE → M (List D)} {g : GM} {ds : List D} (h : mi env s = .ok ds s') (q : Wp (forM' g b ds) env s' Q) : Wp (sFor mi g b) env s Q := Wp.sE h q
theorem Wp.nil {g : GM} (h : Q env s) : Wp (forM' g b []) env s Q := ⟨env, s, rfl, h⟩
theorem Wp.cons {g : GM} {d : D} {ds : List D} {env1 : LE} (hg : g d env = some env1) (h : Wp b env1 s fun e t => Wp (forM' g b ds) e t Q) : Wp (forM' g b (d :: ds)) env s Q := by
  obtain ⟨e, t, q, e2, t2, q2, k⟩ := h
  refine ⟨e2, t2, ?_, k⟩
  show (match g d env with | none => none | some env1 => match b env1 s with | some (.nx e, s') => forM' g b ds e s' | some (.ct e, s') => forM' g b ds e s' | some (.bk e, s') => some (.nx e, s') | r => r) = _
  rw [hg]
  show (match b env1 s with | some (.nx e, s') => forM' g b ds e s' | some (.ct e, s') => forM' g b ds e s' | some (.bk e, s') => some (.nx e, s') | r => r) = _
  rw [q]
  exact q2
/-- a loop by what holds ahead of each turn -/
theorem Wp.each {g : GM} {I : LE → S → Prop} : ∀ (ds : List D) {env : LE} {s : S}, I env s → (∀ d ∈ ds, ∀ e t, I e t → ∃ e1, g d e = some e1 ∧ Wp b e1 t I) → (∀ e t, I e t → Q e t) → Wp (forM' g b ds) env s Q
  | [], _, _, h, _, k => Wp.nil (k _ _ h)
  | d :: ds, _, _, h, f, k => by
    obtain ⟨e1, hg, w⟩ := f d (by simp) _ _ h
    exact Wp.cons hg (w.imp fun e t he => Wp.each ds he (fun d' hd' => f d' (List.mem_cons_of_mem _ hd')) k)
/-- a body behind another one -/
theorem run_wp {d : D} (h : Wp b env s fun e t => ∃ s', runS n e t = .ok d s') : ∃ s', runS (sSeq b n) env s = .ok d s' := by
  obtain ⟨e, t, q, s', r⟩ := h
  refine ⟨s', ?_⟩
  unfold runS sSeq
  rw [q]
  exact r
theorem M.bind_ok {α β : Type} {m : M α} {f : α → M β} {x : α} (h : m s = .ok x s') : (m >>= f) s = f x s' := by
  rw [bind_def, h]
  rfl
theorem Tr.at {α : Type} {I : S → Prop} {m : M α} {P : α → Prop} (h : Tr I m P) (hs : I s) : ∃ x s', m s = .ok x s' ∧ P x ∧ I s' := h s hs
end
/-! ### repr of lists of small things -/
/-- small data: what its repr has is bounded -/
def niceP (p : PyData) : Bool := p.leavesShort 20 && (p.showable && (decide (p.depth ≤ 30) && (decide (p.weight ≤ 200) && (!p.hasDict && SeqAt.shaped p))))
def D.nice (d : D) : Bool := match d.py with
  | some p => niceP p
  | none => false
theorem nice_py {d : D} (h : d.nice = true) : ∃ p, d.py = some p ∧ niceP p = true := by
  unfold D.nice at h
  cases e : d.py with
  | none => rw [e] at h; cases h
  | some p => rw [e] at h; exact ⟨p, rfl, h⟩
theorem pyL_nice : ∀ {ds : List D}, (∀ d ∈ ds, d.nice = true) → ∃ ps, pyL ds = some ps ∧ ps.length = ds.length ∧ ∀ p ∈ ps, niceP p = true
  | [], _ => ⟨[], rfl, rfl, by simp⟩
  | d :: r, h => by
    obtain ⟨p, e, k⟩ := nice_py (h d (by simp))
    obtain ⟨ps, e2, l, k2⟩ := pyL_nice (ds := r) fun x hx => h x (List.mem_cons_of_mem _ hx)
    refine ⟨p :: ps, by simp only [pyL, e, e2], by simp [l], fun x hx => ?_⟩
    rcases List.mem_cons.mp hx with rfl | hx
    · exact k
    · exact k2 x hx
structure NiceL (ps : List PyData) (n : Nat) : Prop where
  ls : PyData.leavesShortAll 20 ps = true
  sh : PyData.showableAll ps = true
  dp : PyData.depthAll ps ≤ 30
  wt : PyData.weightAll ps ≤ n * 200 + n
  hd : PyData.hasDictAll ps = false
theorem niceL : ∀ {ps : List PyData}, (∀ p ∈ ps, niceP p = true) → NiceL ps ps.length
  | [], _ => ⟨rfl, rfl, by simp [PyData.depthAll], by simp [PyData.weightAll], rfl⟩
  | p :: r, h => by
    have k := h p (by simp)
    have ih := niceL (ps := r) fun x hx => h x (List.mem_cons_of_mem _ hx)
    unfold niceP at k
    simp only [Bool.and_eq_true, decide_eq_true_eq, Bool.not_eq_true'] at k
    obtain ⟨k1, k2, k3, k4, k5, k6⟩ := k
    have w1 := ih.wt
    refine ⟨by simp [PyData.leavesShortAll, k1, ih.ls], by simp [PyData.showableAll, k2, ih.sh], ?_, ?_, by simp [PyData.hasDictAll, k5, ih.hd]⟩
    · have := ih.dp
      simp only [PyData.depthAll]
      omega
    · simp only [PyData.weightAll, List.length_cons]
      omega
theorem showOk_list {ps : List PyData} (h : ∀ p ∈ ps, niceP p = true) (hl : ps.length ≤ 100) : showOk (.list ps) = true := by
  have k := niceL h
  have w1 := k.wt
  have s1 := PyData.shown_le 20 (by decide) (.list ps) (by simp only [PyData.leavesShort]; exact k.ls)
  simp only [PyData.weight] at s1
  have d1 := k.dp
  unfold showOk
  simp only [PyData.showable, PyData.hasDict, k.sh, k.hd, PyData.depth, Bool.true_and, Bool.not_false, Bool.and_true]
  rw [Bool.and_eq_true]
  refine ⟨decide_eq_true (by omega), decide_eq_true ?_⟩
  omega
theorem showOk_tuple {ps : List PyData} (h : ∀ p ∈ ps, niceP p = true) (hl : ps.length ≤ 100) : showOk (.tuple ps) = true := by
  have k := niceL h
  have w1 := k.wt
  have s1 := PyData.shown_le 20 (by decide) (.tuple ps) (by simp only [PyData.leavesShort]; exact k.ls)
  simp only [PyData.weight] at s1
  have d1 := k.dp
  unfold showOk
  simp only [PyData.showable, PyData.hasDict, k.sh, k.hd, PyData.depth, Bool.true_and, Bool.not_false, Bool.and_true]
  rw [Bool.and_eq_true]
  refine ⟨decide_eq_true (by omega), decide_eq_true ?_⟩
  omega
theorem repr_lst {ds : List D} (h : ∀ d ∈ ds, d.nice = true) (hl : ds.length ≤ 100) : ∃ ps, pyL ds = some ps ∧ oRepr (.lst ds) = pure (.str (PyData.shown (.list ps))) := by
  obtain ⟨ps, e, l, k⟩ := pyL_nice h
  refine ⟨ps, e, ?_⟩
  show ((optM ((pyL ds).map PyData.list) : M PyData) >>= fun p => guardM (showOk p) >>= fun _ => (pure (D.str p.shown) : M D)) = _
  rw [e]
  show (guardM (showOk (.list ps)) >>= fun _ => (pure (D.str (PyData.shown (.list ps))) : M D)) = _
  rw [guard_true (showOk_list k (by omega))]
theorem repr_tup {ds : List D} (h : ∀ d ∈ ds, d.nice = true) (hl : ds.length ≤ 100) : ∃ ps, pyL ds = some ps ∧ oRepr (.tup ds) = pure (.str (PyData.shown (.tuple ps))) := by
  obtain ⟨ps, e, l, k⟩ := pyL_nice h
  refine ⟨ps, e, ?_⟩
  show ((optM ((pyL ds).map PyData.tuple) : M PyData) >>= fun p => guardM (showOk p) >>= fun _ => (pure (D.str p.shown) : M D)) = _
  rw [e]
  show (guardM (showOk (.tuple ps)) >>= fun _ => (pure (D.str (PyData.shown (.tuple ps))) : M D)) = _
  rw [guard_true (showOk_tuple k (by omega))]
/-- the same of a list in a cell -/
theorem repr_loc {ds : List D} {n : Nat} {s : S} (hs : s[n]? = some (some (.lst ds))) (h : ∀ d ∈ ds, d.nice = true) (hl : ds.length ≤ 100) : ∃ ps, pyL ds = some ps ∧ oRepr (.loc n) s = .ok (.str (PyData.shown (.list ps))) s := by
  obtain ⟨ps, e, l, k⟩ := pyL_nice h
  refine ⟨ps, e, ?_⟩
  show ((pyM (.loc n) >>= fun p => guardM (showOk p) >>= fun _ => (pure (D.str p.shown) : M D)) : M D) s = _
  have e1 : pyM (.loc n) s = .ok (.list ps) s := by
    show (match s[n]? with
      | some (some (.lst ds)) => (optM ((pyL ds).map .list) : M PyData) s
      | some (some (.dct kvs)) => (optM ((leafK kvs).map .dict) : M PyData) s
      | _ => .stuck) = _
    rw [hs]
    show (optM ((pyL ds).map .list) : M PyData) s = _
    rw [e]
    rfl
  rw [M.bind_ok e1]
  show (guardM (showOk (.list ps)) >>= fun _ => (pure (D.str (PyData.shown (.list ps))) : M D)) s = _
  rw [guard_true (showOk_list k (by omega))]
  rfl
end DL
set_option Elab.async false
set_option linter.all false
set_option maxRecDepth 100000
set_option maxHeartbeats 2000000
/-! # Plain tools: an expression at a store, rule by rule -/
namespace DL
open PySem L2
section
variable {env : LE} {s s1 s2 s3 s4 : S} {x y z d : D} {b c : Bool}
theorem ok_pure {α : Type} {m : LE → M α} {a : α} (h : m env = pure a) : m env s = .ok a s := by rw [h]; rfl
theorem M.bind_to {α β : Type} {m : M α} {f : α → M β} {a : α} {r : R β} (h : m s = .ok a s1) (k : f a s1 = r) : (m >>= f) s = r := by rw [bind_def, h]; exact k
theorem tOf_ok {m : LE → M D} (h : m env s = .ok (.bl b) s1) : tOf m env s = .ok b s1 := M.bind_to h rfl
theorem tNot_ok {t : LE → M Bool} (h : t env s = .ok b s1) : tNotM t env s = .ok (!b) s1 := M.bind_to h rfl
theorem tOr_ok {t u : LE → M Bool} (h : t env s = .ok false s1) (k : u env s1 = .ok b s2) : tOrM t u env s = .ok b s2 := M.bind_to h k
theorem tOr_t {t u : LE → M Bool} (h : t env s = .ok true s1) : tOrM t u env s = .ok true s1 := M.bind_to h rfl
theorem tAnd_ok {t u : LE → M Bool} (h : t env s = .ok true s1) (k : u env s1 = .ok b s2) : tAndM t u env s = .ok b s2 := M.bind_to h k
theorem tAnd_f {t u : LE → M Bool} (h : t env s = .ok false s1) : tAndM t u env s = .ok false s1 := M.bind_to h rfl
theorem eVar_ok {i : Nat} (h : env[i]? = some (some (.val d))) : eVar i env s = .ok d s := by unfold eVar; rw [h]; rfl
theorem eBin_ok {f : D → D → M D} {ma mb : LE → M D} (h : ma env s = .ok x s1) (k : mb env s1 = .ok y s2) (r : f x y s2 = .ok z s3) : eBin f ma mb env s = .ok z s3 := M.bind_to h (M.bind_to k r)
theorem eB1_ok {f : D → M D} {ma : LE → M D} (h : ma env s = .ok x s1) (r : f x s1 = .ok z s2) : eB (on1 f) (aCons ma aNil) env s = .ok z s2 := M.bind_to (M.bind_to h (M.bind_to (a := ([] : List D)) (s1 := s1) rfl rfl)) r
theorem eB2_ok {f : D → D → M D} {ma mb : LE → M D} (h : ma env s = .ok x s1) (k : mb env s1 = .ok y s2) (r : f x y s2 = .ok z s3) : eB (on2 f) (aCons ma (aCons mb aNil)) env s = .ok z s3 := M.bind_to (M.bind_to h (M.bind_to (M.bind_to k (M.bind_to (a := ([] : List D)) (s1 := s2) rfl rfl)) rfl)) r
theorem aNil_ok : aNil env s = .ok [] s := rfl
theorem aCons_ok {m : LE → M D} {n : LE → M (List D)} {ds : List D} (h : m env s = .ok x s1) (k : n env s1 = .ok ds s2) : aCons m n env s = .ok (x :: ds) s2 := M.bind_to h (M.bind_to k rfl)
theorem eCall_ok {n : Nat} {m : List D → M D} {dds ds : List D} {ma : LE → M (List D)} (h : ma env s = .ok ds s1) (hn : (ds ++ dds).length = n) (r : m (ds ++ dds) s1 = .ok z s2) : eCall n m dds ma env s = .ok z s2 := by
  refine M.bind_to h (M.bind_to (a := ()) (s1 := s1) ?_ r)
  rw [decide_eq_true hn]
  rfl
theorem eCall1_ok {m : List D → M D} {ma : LE → M D} (h : ma env s = .ok x s1) (r : m [x] s1 = .ok z s2) : eCall 1 m [] (aCons ma aNil) env s = .ok z s2 := eCall_ok (aCons_ok h aNil_ok) rfl r
theorem eCall2_ok {m : List D → M D} {ma mb : LE → M D} (h : ma env s = .ok x s1) (k : mb env s1 = .ok y s2) (r : m [x, y] s2 = .ok z s3) : eCall 2 m [] (aCons ma (aCons mb aNil)) env s = .ok z s3 := eCall_ok (aCons_ok h (aCons_ok k aNil_ok)) rfl r
theorem eTup_ok {m : LE → M (List D)} {ds : List D} (h : m env s = .ok ds s1) (hl : ds.length ≤ 1000000) : eTup m env s = .ok (.tup ds) s1 := by
  refine M.bind_to h (M.bind_to (a := ()) (s1 := s1) ?_ rfl)
  rw [show szOk ds.length = true from decide_eq_true hl]
  rfl
theorem nLst_ok {m : LE → M (List D)} {ds : List D} (h : m env s = .ok ds s1) (hl : ds.length ≤ 1000000) : nLst m env s = .ok (.lst ds) s1 := by
  refine M.bind_to h (M.bind_to (a := ()) (s1 := s1) ?_ rfl)
  rw [show szOk ds.length = true from decide_eq_true hl]
  rfl
theorem eFrz_ok {m : LE → M O} {ds : List D} (h : m env s = .ok (.lst ds) s1) : eFrz m env s = .ok (.lst ds) s1 := M.bind_to h rfl
theorem eIf_t {t : LE → M Bool} {m n : LE → M D} (h : t env s = .ok true s1) (k : m env s1 = .ok z s2) : eIf t m n env s = .ok z s2 := M.bind_to h k
theorem eIf_f {t : LE → M Bool} {m n : LE → M D} (h : t env s = .ok false s1) (k : n env s1 = .ok z s2) : eIf t m n env s = .ok z s2 := M.bind_to h k
theorem eSl_ok {m : LE → M D} {l h : LE → M (Option Int)} {lo hi : Option Int} (a : m env s = .ok x s1) (k : l env s1 = .ok lo s2) (j : h env s2 = .ok hi s3) (r : oSl x lo hi s3 = .ok z s4) : eSl m l h env s = .ok z s4 := M.bind_to a (M.bind_to k (M.bind_to j r))
theorem pSome_ok {m : LE → M D} {i : Int} (h : m env s = .ok (.int i) s1) : pSome m env s = .ok (some i) s1 := M.bind_to h rfl
theorem pNone_ok : pNone env s = .ok none s := rfl
theorem run_ok {α : Type} {m : M α} {a : α} (h : m = pure a) : m s = .ok a s := by rw [h]; rfl
/-! ### lists of data, mapped -/
theorem lcM_map {α : Type} {g : GM} {t : LE → M Bool} {e : LE → M D} (F G : α → D) : ∀ (xs : List α) (acc : List D), (∀ a ∈ xs, ∃ E, g (F a) env = some E ∧ t E = pure true ∧ e E = pure (G a)) → acc.length + xs.length ≤ 1000000 →
    lcM g t e env (xs.map F) acc = pure (acc ++ xs.map G)
  | [], acc, _, _ => by simp only [lcM, List.map_nil, List.append_nil]
  | a :: r, acc, h, hz => by
    obtain ⟨E, e1, e2, e3⟩ := h a (by simp)
    have hz' : acc.length + (r.length + 1) ≤ 1000000 := hz
    have ih := lcM_map F G r (acc ++ [G a]) (fun b hb => h b (List.mem_cons_of_mem _ hb)) (by rw [List.length_append, List.length_singleton]; omega)
    show (match g (F a) env with | none => mStuck | some env1 => t env1 >>= fun b => if b = true then e env1 >>= fun y => guardM (szOk acc.length) >>= fun _ => lcM g t e env (r.map F) (acc ++ [y]) else lcM g t e env (r.map F) acc) = _
    rw [e1]
    show (t E >>= fun b => if b = true then e E >>= fun y => guardM (szOk acc.length) >>= fun _ => lcM g t e env (r.map F) (acc ++ [y]) else lcM g t e env (r.map F) acc) = _
    rw [e2, bind_pure', if_t, e3, bind_pure', guard_true (show szOk acc.length = true from decide_eq_true (by omega)), ih]
    simp
theorem nLc_map {α : Type} {mi : LE → M (List D)} {g : GM} {e : LE → M D} {own : List Nat} (F G : α → D) (xs : List α) (hi : mi env = pure (xs.map F)) (h : ∀ a ∈ xs, ∃ E, g (F a) (wipeE env own) = some E ∧ e E = pure (G a)) (hl : xs.length ≤ 1000000) : nLc mi g tTrue e own env = pure (.lst (xs.map G)) := by
  unfold nLc
  rw [hi, bind_pure', lcM_map F G xs [] (fun a ha => by obtain ⟨E, h1, h2⟩ := h a ha; exact ⟨E, h1, rfl, h2⟩) (by show 0 + xs.length ≤ _; omega), noX_pure, bind_pure', List.nil_append]
/-- texts joined -/
theorem eJoin_ok {a : Str} {ys : List Str} {ma mb : LE → M D} (h : ma env = pure (.str a)) (k : mb env = pure (.lst (ys.map .str))) (hl : (ys.map (·.length)).sum + ys.length * a.length ≤ 16777216) (hs : strsOf (ys.map .str) = some ys) : eJoin ma mb env = pure (.str (Txt.join a ys)) := by
  unfold eJoin
  rw [h, bind_pure']
  simp only [strM, bind_pure', k]
  show ((optM (strsOf (ys.map .str)) : M (List Str)) >>= fun ys => guardM (decide ((ys.map (·.length)).sum + ys.length * a.length ≤ 16777216)) >>= fun _ => (pure (D.str (Txt.join a ys)) : M D)) = _
  rw [hs, opt_some, guard_true (decide_eq_true hl)]
end
end DL
set_option Elab.async false
set_option linter.all false
set_option maxRecDepth 100000
set_option maxHeartbeats 2000000
/-! # Plain tools: what is pure -/
namespace DL
open PySem L2
section
variable {env : LE} {a b : Bool} {x y z d : D} {s : S}
theorem eBin_p {f : D → D → M D} {ma mb : LE → M D} (h : ma env = pure x) (k : mb env = pure y) (r : f x y = pure z) : eBin f ma mb env = pure z := by
  unfold eBin
  rw [h, bind_pure', k, bind_pure', r]
theorem eB1_p {f : D → M D} {ma : LE → M D} (h : ma env = pure x) (r : f x = pure z) : eB (on1 f) (aCons ma aNil) env = pure z := by
  unfold eB aCons aNil
  rw [h]
  exact r
theorem eB2_p {f : D → D → M D} {ma mb : LE → M D} (h : ma env = pure x) (k : mb env = pure y) (r : f x y = pure z) : eB (on2 f) (aCons ma (aCons mb aNil)) env = pure z := by
  unfold eB aCons aNil
  rw [h, k]
  exact r
theorem tOf_p {m : LE → M D} (h : m env = pure (.bl a)) : tOf m env = pure a := by unfold tOf; rw [h]; rfl
theorem tNot_p {t : LE → M Bool} (h : t env = pure a) : tNotM t env = pure (!a) := by unfold tNotM; rw [h]; rfl
theorem tOr_p {t u : LE → M Bool} (h : t env = pure a) (k : u env = pure b) : tOrM t u env = pure (a || b) := by
  unfold tOrM
  rw [h, k]
  cases a <;> rfl
theorem tAnd_p {t u : LE → M Bool} (h : t env = pure a) (k : u env = pure b) : tAndM t u env = pure (a && b) := by
  unfold tAndM
  rw [h, k]
  cases a <;> rfl
theorem tAnd_pf {t u : LE → M Bool} (h : t env = pure false) : tAndM t u env = pure false := by unfold tAndM; rw [h]; rfl
theorem tOr_pt {t u : LE → M Bool} (h : t env = pure true) : tOrM t u env = pure true := by unfold tOrM; rw [h]; rfl
theorem eAnd_p {m n : LE → M D} (h : m env = pure (.bl a)) (k : n env = pure (.bl b)) : eAnd m n env = pure (.bl (a && b)) := by
  unfold eAnd
  rw [h, k]
  cases a <;> rfl
theorem eAnd_pf {m n : LE → M D} (h : m env = pure (.bl false)) : eAnd m n env = pure (.bl false) := by unfold eAnd; rw [h]; rfl
theorem eOr_p {m n : LE → M D} (h : m env = pure (.bl a)) (k : n env = pure (.bl b)) : eOr m n env = pure (.bl (a || b)) := by
  unfold eOr
  rw [h, k]
  cases a <;> rfl
theorem eOr_pt {m n : LE → M D} (h : m env = pure (.bl true)) : eOr m n env = pure (.bl true) := by unfold eOr; rw [h]; rfl
theorem eNot_p {m : LE → M D} (h : m env = pure (.bl a)) : eNot m env = pure (.bl (!a)) := by unfold eNot; rw [h]; rfl
theorem eIf_p {t : LE → M Bool} {m n : LE → M D} (h : t env = pure a) (k : a = true → m env = pure x) (j : a = false → n env = pure x) : eIf t m n env = pure x := by
  unfold eIf
  rw [h]
  cases a with
  | true => exact k rfl
  | false => exact j rfl
theorem eCall1_p {m : List D → M D} {ma : LE → M D} (h : ma env = pure x) (r : m [x] = pure z) : eCall 1 m [] (aCons ma aNil) env = pure z := by
  unfold eCall aCons aNil
  rw [h]
  exact r
theorem eCall2_p {m : List D → M D} {ma mb : LE → M D} (h : ma env = pure x) (k : mb env = pure y) (r : m [x, y] = pure z) : eCall 2 m [] (aCons ma (aCons mb aNil)) env = pure z := by
  unfold eCall aCons aNil
  rw [h, k]
  exact r
theorem eCall3_p {m : List D → M D} {ma mb mc : LE → M D} (h : ma env = pure x) (k : mb env = pure y) (j : mc env = pure d) (r : m [x, y, d] = pure z) : eCall 3 m [] (aCons ma (aCons mb (aCons mc aNil))) env = pure z := by
  unfold eCall aCons aNil
  rw [h, k, j]
  exact r
/-- if t: return r; rest -/
theorem runS_ret_if {t : LE → M Bool} {r : LE → M D} {n : SM} (h : t env = pure a) : runS (sSeq (sIf t (sRet r) sNext) n) env = if a = true then r env else runS n env := by
  rw [runS_ifS, h, bind_pure', runS_retS, runS_next]
theorem chain_int {i j k : Int} {ma mb mc : LE → M D} (h1 : ma env = pure (.int i)) (h2 : mb env = pure (.int j)) (h3 : mc env = pure (.int k)) : eChain oLe oLe ma mb mc env = pure (.bl (decide (i ≤ j) && decide (j ≤ k))) := by
  unfold eChain
  rw [h1, bind_pure', h2, bind_pure', oLe_int, bind_pure', asB_bl, bind_pure', h3, bind_pure', oLe_int]
  cases decide (i ≤ j) <;> rfl
/-! ### what is told without effect, at a store -/
theorem insM_ok {n k : Nat} {fs : List (Str × D)} (hs : s[n]? = some (some (.ins k fs))) : insM (.loc n) s = .ok (k, fs) s := by
  show (match s[n]? with
    | some (some (.ins c fs)) => R.ok (c, fs) s
    | _ => .stuck : R (Nat × List (Str × D))) = _
  rw [hs]
theorem eFld_ok {cs : List Nat} {f : Str} {m : LE → M D} {n k : Nat} {fs : List (Str × D)} {s1 : S} (h : m env s = .ok (.loc n) s1) (hs : s1[n]? = some (some (.ins k fs))) (hc : cs.contains k = true) (hl : lookF f fs = some d) : eFld cs f m env s = .ok d s1 := by
  refine M.bind_to h ?_
  unfold fldM
  refine M.bind_to (insM_ok hs) ?_
  dsimp only
  rw [hc, hl]
  rfl
theorem eMeth_ok {k n i : Nat} {nm : Str} {m : List D → M D} {mo : LE → M D} {ma : LE → M (List D)} {ds : List D} {fs : List (Str × D)} {s1 s2 s3 : S} (h : mo env s = .ok (.loc i) s1) (hs : s1[i]? = some (some (.ins k fs))) (hl : lookF nm fs = none) (ha : ma env s1 = .ok ds s2) (hn : (D.loc i :: (ds ++ [])).length = n) (r : m (.loc i :: ds) s2 = .ok z s3) : eMeth k n nm m [] mo ma env s = .ok z s3 := by
  refine M.bind_to h ?_
  unfold isInsM
  show ((insM (.loc i) >>= fun p => guardM (decide (p.1 = k) && (lookF nm p.2).isNone)) >>= _) s1 = _
  refine M.bind_to (a := ()) (s1 := s1) ?_ ?_
  · refine M.bind_to (insM_ok hs) ?_
    dsimp only
    rw [hl, decide_eq_true rfl]
    rfl
  · refine M.bind_to ha ?_
    refine M.bind_to (a := ()) (s1 := s2) ?_ ?_
    · rw [decide_eq_true hn]
      rfl
    · rw [List.append_nil]
      exact r
theorem eProp_ok {k i : Nat} {m : List D → M D} {mo : LE → M D} {fs : List (Str × D)} {s1 s2 : S} (h : mo env s = .ok (.loc i) s1) (hs : s1[i]? = some (some (.ins k fs))) (r : m [.loc i] s1 = .ok z s2) : eProp k m mo env s = .ok z s2 := by
  refine M.bind_to h (M.bind_to (insM_ok hs) ?_)
  dsimp only
  refine M.bind_to (a := ()) (s1 := s1) (by rw [decide_eq_true rfl]; rfl) ?_
  unfold noX
  rw [r]
theorem runS_ret_ok {m : LE → M D} {s1 : S} (h : m env s = .ok z s1) : runS (sRet m) env s = .ok z s1 := by rw [runS_ret]; exact h
/-- if t: return r; rest: not gone into -/
theorem runS_pass {t : LE → M Bool} {q : SM} {n : SM} {s1 : S} {r : R D} (h : t env s = .ok false s1) (k : runS n env s1 = r) : runS (sSeq (sIf t q sNext) n) env s = r := by
  rw [runS_ifS]
  refine M.bind_to h ?_
  exact k
theorem runS_expr_ok {m : LE → M D} {n : SM} {s1 : S} {r : R D} (h : m env s = .ok z s1) (k : runS n env s1 = r) : runS (sSeq (sExpr m) n) env s = r := by
  rw [runS_expr]
  exact M.bind_to h k
theorem Wp.setf {cs : List Nat} {f : Str} {mo me : LE → M D} {o : D} {s1 s2 s3 : S} {Q : LE → S → Prop} (he : me env s = .ok d s1) (ho : mo env s1 = .ok o s2) (hs : setFM cs f o d s2 = some s3) (q : Q env s3) : Wp (sSetF cs f mo me) env s Q := by
  refine Wp.sE he (Wp.sE ho ⟨env, s3, ?_, q⟩)
  show (setFM cs f o d s2).map _ = _
  rw [hs]
  rfl
theorem run_end {b : SM} {s1 : S} (h : Wp b env s fun _ t => t = s1) : runS b env s = .ok .non s1 := by
  obtain ⟨e, t, q, rfl⟩ := h
  unfold runS
  rw [q]
  rfl
/-- a new instance -/
theorem mkM_ok {k : Nat} {m : List D → M D} {ds : List D} {s1 : S} (h : m (.loc s.length :: ds) (s ++ [some (.ins k [])]) = .ok .non s1) : mkM k m ds s = .ok (.loc s.length) s1 := by
  unfold mkM
  rw [h]
theorem at_new {o : Option O} : (s ++ [o])[s.length]? = some o := by rw [List.getElem?_append_right (Nat.le_refl _), Nat.sub_self]; rfl
theorem set_new {o p : Option O} : (s ++ [o]).set s.length p = s ++ [p] := by
  rw [List.set_append_right _ _ (Nat.le_refl _), Nat.sub_self]
  rfl
theorem setFM_new {cs : List Nat} {f : Str} {k : Nat} {fs : List (Str × D)} (hc : cs.contains k = true) (hl : fs.length < 1000) : setFM cs f (.loc s.length) d (s ++ [some (.ins k fs)]) = some (s ++ [some (.ins k (putFd f d fs))]) := by
  unfold setFM
  simp only [at_new, hc, decide_eq_true hl, Bool.and_self, if_true, set_new]
end
end DL
set_option Elab.async false
set_option linter.all false
set_option maxRecDepth 100000
set_option maxHeartbeats 2000000
/-! # Plain tools: errors caught, == of instances -/
namespace DL
open PySem L2
theorem try_exc {i j : Nat} {mt : Nat → Option Bool} {mb : SM} {me : LE → M D} {env env' : LE} {s s' : S} {fs : List (Str × D)} {d : D} (h : mb env s = some (.xc (.own j) fs env', s')) (hm : mt j = some true) (he : me (env'.set i (some (.val (.exn j fs)))) s' = .ok d s') (hn : d.nox = true) :
    sTryAs i mt mb me env s = some (.rt d, s') := by
  unfold sTryAs
  rw [h]
  show (match mt j with | some true => sufRes (me (env'.set i (some (.val (.exn j fs)))) s') s' | some false => some (.xc (.own j) fs env', s') | none => none) = _
  rw [hm]
  show sufRes (me (env'.set i (some (.val (.exn j fs)))) s') s' = _
  rw [he]
  unfold sufRes
  simp [hn]
theorem sE_exc {α : Type} {m : LE → M α} {k : α → SM} {env : LE} {s s' : S} {x : XC} {fs : List (Str × D)} (h : m env s = .exc x fs s') : sE m k env s = some (.xc x fs env, s') := by
  unfold sE
  rw [h]
theorem sE_ok {α : Type} {m : LE → M α} {k : α → SM} {env : LE} {s s' : S} {a : α} {r : SR} (h : m env s = .ok a s') (q : k a env s' = r) : sE m k env s = r := by
  unfold sE
  rw [h]
  exact q
theorem M.bind_exc {α β : Type} {m : M α} {f : α → M β} {s s' : S} {x : XC} {fs : List (Str × D)} (h : m s = .exc x fs s') : (m >>= f) s = .exc x fs s' := by
  rw [bind_def, h]
  rfl
theorem run_rt {b : SM} {env : LE} {s s' : S} {d : D} {n : SM} (h : b env s = some (.rt d, s')) : runS (sSeq b n) env s = .ok d s' := by
  unfold runS sSeq
  rw [h]
  rfl
theorem run_xc {b : SM} {env env' : LE} {s s' : S} {x : XC} {fs : List (Str × D)} {n : SM} (h : b env s = some (.xc x fs env', s')) : runS (sSeq b n) env s = .exc x fs s' := by
  unfold runS sSeq
  rw [h]
  rfl
theorem tyM_ins {s : S} {n k : Nat} {fs : List (Str × D)} (hs : s[n]? = some (some (.ins k fs))) : tyM (.loc n) s = .ok (.own k) s := by
  show (match s[n]? with
    | some (some (.lst _)) => R.ok (TyD.bi .lst) s
    | some (some (.dct _)) => .ok (.bi .dct) s
    | some (some (.ins k _)) => .ok (.own k) s
    | _ => .stuck) = _
  rw [hs]
theorem isC_ins {s : S} {n k : Nat} {fs : List (Str × D)} {sub : Nat → Option Bool} {b : Bool} (hs : s[n]? = some (some (.ins k fs))) (hb : sub k = some b) : oIsC true sub (.loc n) s = .ok (.bl b) s := by
  unfold oIsC
  refine M.bind_to (tyM_ins hs) ?_
  dsimp only
  rw [hb]
  rfl
theorem eIsC_ok {sub : Nat → Option Bool} {m : LE → M D} {env : LE} {s s1 : S} {n k : Nat} {fs : List (Str × D)} {b : Bool} (h : m env s = .ok (.loc n) s1) (hs : s1[n]? = some (some (.ins k fs))) (hb : sub k = some b) : eIsC sub m env s = .ok (.bl b) s1 := M.bind_to h (isC_ins hs hb)
theorem eAnd_ok {m n : LE → M D} {env : LE} {s s1 s2 : S} {d : D} (h : m env s = .ok (.bl true) s1) (k : n env s1 = .ok d s2) : eAnd m n env s = .ok d s2 := M.bind_to h (by show (if true = true then n env else pure (.bl false)) s1 = _; exact k)
/-- own ==, both instances -/
theorem eqX_ok {tb : Nat → Option (List D → M D)} {oc : Nat → Bool} {s : S} {a b k j : Nat} {fs gs : List (Str × D)} {m : List D → M D} {r : Bool} (ha : s[a]? = some (some (.ins k fs))) (hb : s[b]? = some (some (.ins j gs))) (ht : tb k = some m) (ho : oc j = true) (hm : m [.loc a, .loc b] s = .ok (.bl r) s) : oEqX tb oc (.loc a) (.loc b) s = .ok (.bl r) s := by
  have e1 : isDct (.loc a) s = false := by
    unfold isDct dctM
    simp only [ha]
  unfold oEqX
  rw [e1]
  show oEqI tb oc (.loc a) (.loc b) s = _
  unfold oEqI
  simp only [ha, ht]
  refine M.bind_to (tyM_ins hb) ?_
  refine M.bind_to (a := ()) (s1 := s) (by show (guardM (oc j)) s = _; rw [ho]; rfl) ?_
  refine M.bind_to (a := .bl r) (s1 := s) (by unfold noX; rw [hm]) ?_
  rfl
end DL
set_option Elab.async false
set_option linter.all false
set_option maxRecDepth 100000
set_option maxHeartbeats 2000000
/-! # Plain tools: expressions with draws in them -/
namespace DL
open PySem L2
section
variable {I : S → Prop} {env : LE} {i : Nat}
theorem Tr.of_pure {α : Type} {m : M α} {a : α} {P : α → Prop} (h : m = Pure.pure a) (p : P a) : Tr I m P := by subst h; exact Tr.pure p
theorem Tr.eVar {d : D} (h : env[i]? = some (some (.val d))) : Tr I (DL.eVar i env) (fun x => x = d) := Tr.of_pure (by unfold DL.eVar; rw [h]) rfl
theorem Tr.eK {d : D} : Tr I (DL.eK d env) (fun x => x = d) := Tr.pure rfl
theorem Tr.aNil : Tr I (DL.aNil env) (fun ds => ds = []) := Tr.pure rfl
theorem Tr.aCons {m : LE → M D} {n : LE → M (List D)} {P : D → Prop} {Q R : List D → Prop} (h : Tr I (m env) P) (k : Tr I (n env) Q) (r : ∀ x ds, P x → Q ds → R (x :: ds)) : Tr I (DL.aCons m n env) R :=
  Tr.bind h fun x hx => Tr.bind k fun ds hd => Tr.pure (r x ds hx hd)
theorem Tr.eBin {f : D → D → M D} {ma mb : LE → M D} {P Q R : D → Prop} (h : Tr I (ma env) P) (k : Tr I (mb env) Q) (r : ∀ x y, P x → Q y → Tr I (f x y) R) : Tr I (DL.eBin f ma mb env) R :=
  Tr.bind h fun x hx => Tr.bind k fun y hy => r x y hx hy
theorem Tr.eB1 {f : D → M D} {ma : LE → M D} {P R : D → Prop} (h : Tr I (ma env) P) (r : ∀ x, P x → Tr I (f x) R) : Tr I (DL.eB (on1 f) (DL.aCons ma DL.aNil) env) R :=
  Tr.bind (Tr.aCons h Tr.aNil (R := fun ds => ∃ x, ds = [x] ∧ P x) fun x ds hx hd => ⟨x, by rw [hd], hx⟩) fun ds hd => by
    obtain ⟨x, rfl, hx⟩ := hd
    exact r x hx
theorem Tr.eCall1 {m : List D → M D} {ma : LE → M D} {P R : D → Prop} (h : Tr I (ma env) P) (r : ∀ x, P x → Tr I (m [x]) R) : Tr I (DL.eCall 1 m [] (DL.aCons ma DL.aNil) env) R :=
  Tr.bind (Tr.aCons h Tr.aNil (R := fun ds => ∃ x, ds = [x] ∧ P x) fun x ds hx hd => ⟨x, by rw [hd], hx⟩) fun ds hd => by
    obtain ⟨x, rfl, hx⟩ := hd
    exact r x hx
theorem Tr.eCall2 {m : List D → M D} {ma mb : LE → M D} {P Q R : D → Prop} (h : Tr I (ma env) P) (k : Tr I (mb env) Q) (r : ∀ x y, P x → Q y → Tr I (m [x, y]) R) : Tr I (DL.eCall 2 m [] (DL.aCons ma (DL.aCons mb DL.aNil)) env) R :=
  Tr.bind (Tr.aCons h (Tr.aCons k Tr.aNil (R := fun ds => ∃ y, ds = [y] ∧ Q y) fun y ds hy hd => ⟨y, by rw [hd], hy⟩) (R := fun ds => ∃ x y, ds = [x, y] ∧ P x ∧ Q y) fun x ds hx hd => by
    obtain ⟨y, rfl, hy⟩ := hd
    exact ⟨x, y, rfl, hx, hy⟩) fun ds hd => by
    obtain ⟨x, y, rfl, hx, hy⟩ := hd
    exact r x y hx hy
theorem Tr.nLst {m : LE → M (List D)} {P : List D → Prop} (h : Tr I (m env) P) (hz : ∀ ds, P ds → ds.length ≤ 1000000) : Tr I (DL.eFrz (DL.nLst m) env) (fun d => ∃ ds, d = .lst ds ∧ P ds) := by
  refine Tr.bind (P := fun o => ∃ ds, o = O.lst ds ∧ P ds) (Tr.bind h fun ds hd => ?_) fun o ho => ?_
  · rw [guard_true (show szOk ds.length = true from decide_eq_true (hz ds hd))]
    exact Tr.pure ⟨ds, rfl, hd⟩
  · obtain ⟨ds, rfl, hd⟩ := ho
    exact Tr.pure ⟨ds, rfl, hd⟩
theorem Tr.eTup {m : LE → M (List D)} {P : List D → Prop} (h : Tr I (m env) P) (hz : ∀ ds, P ds → ds.length ≤ 1000000) : Tr I (DL.eTup m env) (fun d => ∃ ds, d = .tup ds ∧ P ds) := by
  refine Tr.bind h fun ds hd => ?_
  rw [guard_true (show szOk ds.length = true from decide_eq_true (hz ds hd))]
  exact Tr.pure ⟨ds, rfl, hd⟩
theorem Tr.tOf {m : LE → M D} {P : D → Prop} {R : Bool → Prop} (h : Tr I (m env) P) (r : ∀ x, P x → ∃ b, x = .bl b ∧ R b) : Tr I (DL.tOf m env) R :=
  Tr.bind h fun x hx => by
    obtain ⟨b, rfl, hb⟩ := r x hx
    exact Tr.pure hb
/-- a comprehension with a test: some of the items, told -/
theorem Tr.lcT {g : GM} {t : LE → M Bool} {e : LE → M D} {P : D → Prop} : ∀ (ds acc : List D), (∀ d ∈ ds, ∃ env1, g d env = some env1 ∧ Tr I (t env1) (fun _ => True) ∧ Tr I (e env1) P) → acc.length + ds.length ≤ 1000000 →
    Tr I (lcM g t e env ds acc) (fun r => r.length ≤ acc.length + ds.length ∧ ∀ x ∈ r, x ∈ acc ∨ P x)
  | [], acc, _, _ => Tr.pure ⟨by simp, fun x hx => .inl hx⟩
  | d :: ds, acc, h, hz => by
    obtain ⟨env1, e1, h1, h2⟩ := h d (by simp)
    have hz' : acc.length + (ds.length + 1) ≤ 1000000 := by simpa using hz
    show Tr I (match g d env with | none => mStuck | some env1 => t env1 >>= fun b => if b = true then e env1 >>= fun y => guardM (szOk acc.length) >>= fun _ => lcM g t e env ds (acc ++ [y]) else lcM g t e env ds acc) _
    rw [e1]
    show Tr I (t env1 >>= fun b => if b = true then e env1 >>= fun y => guardM (szOk acc.length) >>= fun _ => lcM g t e env ds (acc ++ [y]) else lcM g t e env ds acc) _
    refine Tr.bind h1 fun b _ => Tr.ite (fun _ => ?_) fun _ => ?_
    · refine Tr.bind h2 fun y hy => ?_
      refine Tr.bind (Tr.guard (P := fun _ => True) (decide_eq_true (by omega)) trivial) fun _ _ => ?_
      refine (Tr.lcT ds (acc ++ [y]) (fun d' hd' => h d' (List.mem_cons_of_mem _ hd')) (by simp; omega)).imp fun r hr => ?_
      obtain ⟨r1, r2⟩ := hr
      refine ⟨by rw [List.length_append, List.length_singleton] at r1; rw [List.length_cons]; omega, fun x hx => ?_⟩
      rcases r2 x hx with q | q
      · rcases List.mem_append.mp q with q | q
        · exact .inl q
        · have : x = y := by simpa using q
          subst this
          exact .inr hy
      · exact .inr q
    · refine (Tr.lcT ds acc (fun d' hd' => h d' (List.mem_cons_of_mem _ hd')) (by omega)).imp fun r hr => ⟨by have := hr.1; rw [List.length_cons]; omega, hr.2⟩
end
section
variable {a b n : SM} {env : LE} {s s1 s2 : S} {i : Nat} {d : D}
/-- a body behind another one -/
theorem run_wpE {P : D → S → Prop} (h : Wp b env s fun e t => ∃ d s', runS n e t = .ok d s' ∧ P d s') : ∃ d s', runS (sSeq b n) env s = .ok d s' ∧ P d s' := by
  obtain ⟨e, t, q, d, s', r, p⟩ := h
  refine ⟨d, s', ?_, p⟩
  unfold runS sSeq
  rw [q]
  exact r
theorem Wp.dputO {mk me : LE → M D} {kd : D} {k : Key} {kvs : List (Key × D)} {Q : LE → S → Prop} (he : me env s = .ok d s1) (hi : env[i]? = some (some (.own (.dct kvs)))) (hk : mk env s1 = .ok kd s2) (ek : keyD kd = some k) (hz : kvs.length ≤ 1000000) (q : Q (env.set i (some (.own (.dct (putD kvs k d))))) s2) : Wp (sDputO i mk me) env s Q := by
  refine Wp.sE he ?_
  refine ⟨env.set i (some (.own (.dct (putD kvs k d)))), s2, ?_, q⟩
  show (match env[i]? with
    | some (some (.own (.dct kvs))) => DL.sE mk (fun k env s => match keyD k with
      | some k => if szOk kvs.length = true then some (.nx (env.set i (some (.own (.dct (putD kvs k d))))), s) else none
      | none => none) env s1
    | _ => none) = _
  rw [hi]
  refine sE_ok hk ?_
  show (match keyD kd with
      | some k => if szOk kvs.length = true then some (Fl.nx (env.set i (some (.own (.dct (putD kvs k d))))), s2) else none
      | none => none) = _
  rw [ek]
  show (if szOk kvs.length = true then _ else none) = _
  rw [show szOk kvs.length = true from decide_eq_true hz]
  rfl
end
end DL
set_option Elab.async false
set_option linter.all false
set_option maxRecDepth 100000
set_option maxHeartbeats 2000000
/-! # Plain tools: repr of dicts of small leaves -/
namespace DL
open PySem L2
/-- a small leaf -/
structure Small (p : PyData) : Prop where
  ls : p.leavesShort 13 = true
  sh : p.showable = true
  dp : p.depth = 0
  wt : p.weight ≤ 64
theorem small_non : Small .none := ⟨rfl, rfl, rfl, Nat.zero_le _⟩
theorem small_bl (b : Bool) : Small (.bool b) := ⟨rfl, rfl, rfl, Nat.zero_le _⟩
theorem small_int {i : Int} (h : i.natAbs < 10 ^ 12) : Small (.int i) := by
  have l1 : i.natAbs.log2 < 64 := by
    by_cases q : i.natAbs = 0
    · rw [q]; decide
    · exact (Nat.log2_lt q).mpr (Nat.lt_trans h (by decide))
  refine ⟨decide_eq_true (PyData.shown_int_le h), decide_eq_true (by omega), rfl, ?_⟩
  show (if i == 0 then 0 else i.natAbs.log2 + 1) ≤ 64
  split <;> omega
theorem small_str {z : Str} (h : (z.cps.toList.all fun c => decide (c < 128)) = true) (hl : z.cps.size ≤ 64) : Small (.str z) := by
  refine ⟨?_, rfl, rfl, hl⟩
  show (z.cps.toList.all fun c => decide (c < 16 ^ 8)) = true
  rw [List.all_eq_true] at h ⊢
  exact fun c hc => decide_eq_true (Nat.lt_trans (of_decide_eq_true (h c hc)) (by decide))
theorem small_kv : ∀ {kvs : List (PyData × PyData)}, (∀ p ∈ kvs, Small p.1 ∧ Small p.2) → PyData.leavesShortKv 13 kvs = true ∧ PyData.showableKv kvs = true ∧ PyData.depthKv kvs ≤ 1 ∧ PyData.weightKv kvs ≤ kvs.length * 130
  | [], _ => ⟨rfl, rfl, by simp [PyData.depthKv], by simp [PyData.weightKv]⟩
  | (a, b) :: r, h => by
    obtain ⟨ha, hb⟩ := h (a, b) (by simp)
    obtain ⟨h1, h2, h3, h4⟩ := small_kv (kvs := r) fun p hp => h p (List.mem_cons_of_mem _ hp)
    have a4 := ha.wt
    have b4 := hb.wt
    have a3 := ha.dp
    have b3 := hb.dp
    refine ⟨by simp [PyData.leavesShortKv, ha.ls, hb.ls, h1], by simp [PyData.showableKv, ha.sh, hb.sh, h2], ?_, ?_⟩
    · simp only [PyData.depthKv]
      dsimp only at a3 b3
      omega
    · simp only [PyData.weightKv, List.length_cons]
      dsimp only at a4 b4
      omega
theorem showOk_dict {kvs : List (PyData × PyData)} (h : ∀ p ∈ kvs, Small p.1 ∧ Small p.2) (hl : kvs.length ≤ 100) : showOk (.dict kvs) = true := by
  obtain ⟨h1, h2, h3, h4⟩ := small_kv h
  have s1 := PyData.shown_le 13 (by decide) (.dict kvs) (by simp only [PyData.leavesShort]; exact h1)
  simp only [PyData.weight] at s1
  unfold showOk
  simp only [PyData.showable, h2, PyData.depth, Bool.true_and, Bool.and_true]
  rw [Bool.and_eq_true]
  refine ⟨decide_eq_true (by omega), decide_eq_true ?_⟩
  omega
/-- repr of a dict of small leaves -/
theorem repr_dct {kvs : List (Key × D)} {ps : List (PyData × PyData)} (e : leafK kvs = some ps) (h : ∀ p ∈ ps, Small p.1 ∧ Small p.2) (hl : ps.length ≤ 100) : oRepr (.dct kvs) = pure (.str (PyData.shown (.dict ps))) := by
  show ((optM ((leafK kvs).map PyData.dict) : M PyData) >>= fun p => guardM (showOk p) >>= fun _ => (pure (D.str p.shown) : M D)) = _
  rw [e]
  show (guardM (showOk (.dict ps)) >>= fun _ => (pure (D.str (PyData.shown (.dict ps))) : M D)) = _
  rw [guard_true (showOk_dict h hl)]
end DL
set_option Elab.async false
set_option linter.all false
set_option maxRecDepth 100000
set_option maxHeartbeats 2000000
/-! # Plain tools: small things, lists of them beside others -/
namespace DL
open PySem L2
/-- a short text of plain signs -/
def okS (z : Str) : Prop := z.cps.toList.length ≤ 64 ∧ ∀ c ∈ z.cps.toList, c < 128
theorem len_toList (z : Str) : z.length = z.cps.toList.length := by
  show z.cps.size = _
  exact Array.length_toList.symm
theorem okS_strOk {z : Str} (h : okS z) : PyData.strOk z = true := by
  unfold PyData.strOk
  rw [← Array.all_toList]
  exact List.all_eq_true.mpr fun c hc => decide_eq_true (by have := h.2 c hc; omega)
theorem niceP_str {z : Str} (h : okS z) : niceP (.str z) = true := by
  have ls : (PyData.str z).leavesShort 20 = true := List.all_eq_true.mpr fun c hc => decide_eq_true (Nat.lt_trans (h.2 c hc) (by decide))
  have w1 : PyData.weight (.str z) ≤ 200 := by
    show z.length ≤ 200
    rw [len_toList]
    have := h.1
    omega
  have sp : SeqAt.shaped (PyData.str z) = true := by
    show (PyData.strOk z && decide (0 ≤ 64)) = true
    rw [okS_strOk h]
    rfl
  unfold niceP
  rw [ls, sp, decide_eq_true w1]
  rfl
theorem niceP_int {i : Int} (h : i.natAbs < 10 ^ 12) : niceP (.int i) = true := by
  have q := small_int h
  have ls : (PyData.int i).leavesShort 20 = true := decide_eq_true (Nat.le_trans (PyData.shown_int_le h) (by decide))
  unfold niceP
  rw [ls, q.sh, decide_eq_true (Nat.le_trans q.wt (by decide))]
  rfl
theorem nice_strD {z : Str} (h : okS z) : (D.str z).nice = true := niceP_str h
theorem nice_intD {i : Int} (h : i.natAbs < 10 ^ 12) : (D.int i).nice = true := niceP_int h
theorem niceP_shaped {p : PyData} (h : niceP p = true) : SeqAt.shaped p = true := by
  unfold niceP at h
  simp only [Bool.and_eq_true] at h
  exact h.2.2.2.2.2
theorem canLay_all : ∀ {ps : List PyData}, (∀ p ∈ ps, niceP p = true) → PyData.canLayAll0 ps = true
  | [], _ => rfl
  | p :: r, h => by
    have q := niceP_shaped (h p (by simp))
    unfold SeqAt.shaped at q
    rw [Bool.and_eq_true] at q
    simp only [PyData.canLayAll0, q.1, canLay_all fun y hy => h y (List.mem_cons_of_mem _ hy), Bool.and_self]
theorem shaped_list {ps : List PyData} (h : ∀ p ∈ ps, niceP p = true) : SeqAt.shaped (.list ps) = true := by
  have d := (niceL h).dp
  unfold SeqAt.shaped
  rw [Bool.and_eq_true]
  refine ⟨?_, decide_eq_true ?_⟩
  · simp only [PyData.canLay0]
    exact canLay_all h
  · simp only [PyData.depth]
    omega
theorem shaped_tuple {ps : List PyData} (h : ∀ p ∈ ps, niceP p = true) : SeqAt.shaped (.tuple ps) = true := by
  have d := (niceL h).dp
  unfold SeqAt.shaped
  rw [Bool.and_eq_true]
  refine ⟨?_, decide_eq_true ?_⟩
  · simp only [PyData.canLay0]
    exact canLay_all h
  · simp only [PyData.depth]
    omega
/-- a tuple of few small texts and numbers -/
theorem nice_tupD {ds : List D} (h : ∀ d ∈ ds, (∃ z, d = .str z ∧ okS z ∧ z.cps.toList.length ≤ 20) ∨ ∃ i : Int, d = .int i ∧ i.natAbs < 10 ^ 12) (hl : ds.length ≤ 3) : (D.tup ds).nice = true := by
  have nd : ∀ d ∈ ds, d.nice = true := fun d hd => by
    rcases h d hd with ⟨z, rfl, q, _⟩ | ⟨i, rfl, q⟩
    · exact nice_strD q
    · exact nice_intD q
  obtain ⟨ps, e, l, k⟩ := pyL_nice nd
  have wt : ∀ (ds : List D) (ps : List PyData), (∀ d ∈ ds, (∃ z, d = .str z ∧ okS z ∧ z.cps.toList.length ≤ 20) ∨ ∃ i : Int, d = .int i ∧ i.natAbs < 10 ^ 12) → pyL ds = some ps → PyData.weightAll ps ≤ ds.length * 65 ∧ PyData.depthAll ps = 0 := fun ds => by
    induction ds with
    | nil => intro ps _ e; cases e; exact ⟨by simp [PyData.weightAll], rfl⟩
    | cons d r ih =>
      intro ps hh e
      cases e1 : pyL r with
      | none =>
        simp only [pyL, e1] at e
        split at e
        · rename_i h2
          exact nomatch h2
        · exact nomatch e
      | some qs =>
        obtain ⟨i1, i2⟩ := ih qs (fun y hy => hh y (List.mem_cons_of_mem _ hy)) e1
        rcases hh d (by simp) with ⟨z, rfl, q, q2⟩ | ⟨i, rfl, q⟩
        · simp only [pyL, D.py, e1, Option.some.injEq] at e
          subst e
          have w1 : PyData.weight (.str z) ≤ 20 := by show z.length ≤ 20; rw [len_toList]; exact q2
          simp only [PyData.weightAll, PyData.depthAll, List.length_cons, i2, PyData.depth]
          exact ⟨by omega, rfl⟩
        · simp only [pyL, D.py, e1, Option.some.injEq] at e
          subst e
          have w1 := (small_int q).wt
          simp only [PyData.weightAll, PyData.depthAll, List.length_cons, i2, PyData.depth]
          exact ⟨by omega, rfl⟩
  obtain ⟨w1, d1⟩ := wt ds ps h e
  have kk := niceL k
  have hp : (D.tup ds).py = some (.tuple ps) := by
    show (pyL ds).map PyData.tuple = _
    rw [e]
    rfl
  unfold D.nice
  rw [hp]
  show niceP (.tuple ps) = true
  have hls : (PyData.tuple ps).leavesShort 20 = true := by simp only [PyData.leavesShort]; exact kk.ls
  have hsh : (PyData.tuple ps).showable = true := by simp only [PyData.showable]; exact kk.sh
  have hhd : (PyData.tuple ps).hasDict = false := by simp only [PyData.hasDict]; exact kk.hd
  have hdp : (PyData.tuple ps).depth ≤ 30 := by show PyData.depthAll ps + 1 ≤ 30; omega
  have hwt : (PyData.tuple ps).weight ≤ 200 := by show PyData.weightAll ps ≤ 200; omega
  unfold niceP
  rw [hls, hsh, hhd, decide_eq_true hdp, decide_eq_true hwt, shaped_tuple k]
  rfl
/-- a list of nice things beside the empty one -/
theorem eq_nilD {ds : List D} (h : ∀ d ∈ ds, d.nice = true) : oEqS (.lst ds) (.lst []) = pure (.bl ds.isEmpty) := by
  obtain ⟨ps, e, l, k⟩ := pyL_nice h
  show ((((optM ((pyL ds).map PyData.list) : M PyData) >>= fun p => (optM (some (.list [])) : M PyData) >>= fun q => guardM (SeqAt.shaped p && SeqAt.shaped q) >>= fun _ => (pure (PyData.eqv p q) : M Bool)) >>= fun b => (pure (D.bl b) : M D))) = _
  rw [e]
  show (((guardM (SeqAt.shaped (.list ps) && SeqAt.shaped (.list [])) >>= fun _ => (pure (PyData.eqv (.list ps) (.list [])) : M Bool)) >>= fun b => (pure (D.bl b) : M D))) = _
  rw [shaped_list k, guard_true (show (true && SeqAt.shaped (.list [])) = true from rfl), bind_pure']
  cases ds with
  | nil => cases ps with
    | nil => rfl
    | cons _ _ => cases l
  | cons d r => cases ps with
    | nil => cases l
    | cons p q => rfl
theorem ne_nilD {ds : List D} (h : ∀ d ∈ ds, d.nice = true) : oNeS (.lst ds) (.lst []) = pure (.bl (!ds.isEmpty)) := by
  obtain ⟨ps, e, l, k⟩ := pyL_nice h
  show ((((optM ((pyL ds).map PyData.list) : M PyData) >>= fun p => (optM (some (.list [])) : M PyData) >>= fun q => guardM (SeqAt.shaped p && SeqAt.shaped q) >>= fun _ => (pure (PyData.eqv p q) : M Bool)) >>= fun b => (pure (D.bl (!b)) : M D))) = _
  rw [e]
  show (((guardM (SeqAt.shaped (.list ps) && SeqAt.shaped (.list [])) >>= fun _ => (pure (PyData.eqv (.list ps) (.list [])) : M Bool)) >>= fun b => (pure (D.bl (!b)) : M D))) = _
  rw [shaped_list k, guard_true (show (true && SeqAt.shaped (.list [])) = true from rfl), bind_pure']
  cases ds with
  | nil => cases ps with
    | nil => rfl
    | cons _ _ => cases l
  | cons d r => cases ps with
    | nil => cases l
    | cons p q => rfl
theorem pyL_strs : ∀ zs : List Str, pyL (zs.map .str) = some (zs.map .str)
  | [] => rfl
  | z :: r => by simp only [List.map_cons, pyL, D.py, pyL_strs r]
theorem eqv_strs : ∀ ws vs : List Str, PyData.eqvAll (ws.map .str) (vs.map .str) = decide (ws = vs)
  | [], [] => by simp [PyData.eqvAll]
  | [], _ :: _ => by simp [PyData.eqvAll]
  | _ :: _, [] => by simp [PyData.eqvAll]
  | w :: ws, v :: vs => by
    simp only [List.map_cons, PyData.eqvAll, PyData.eqv, eqv_strs ws vs, List.cons.injEq]
    by_cases h : w = v
    · subst h; simp
    · simp [h]
/-- two lists of short texts -/
theorem eq_strsD {ws vs : List Str} (h : ∀ z ∈ ws, okS z) (k : ∀ z ∈ vs, okS z) : oEqS (.lst (ws.map .str)) (.lst (vs.map .str)) = pure (.bl (decide (ws = vs))) := by
  show ((((optM ((pyL (ws.map .str)).map PyData.list) : M PyData) >>= fun p => (optM ((pyL (vs.map .str)).map PyData.list) : M PyData) >>= fun q => guardM (SeqAt.shaped p && SeqAt.shaped q) >>= fun _ => (pure (PyData.eqv p q) : M Bool)) >>= fun b => (pure (D.bl b) : M D))) = _
  rw [pyL_strs, pyL_strs]
  have s1 : ∀ us : List Str, (∀ z ∈ us, okS z) → SeqAt.shaped (.list (us.map .str)) = true := fun us hu => shaped_list fun p hp => by
    obtain ⟨z, hz, rfl⟩ := List.mem_map.mp hp
    exact niceP_str (hu z hz)
  show (((guardM (SeqAt.shaped (.list (ws.map .str)) && SeqAt.shaped (.list (vs.map .str))) >>= fun _ => (pure (PyData.eqv (.list (ws.map .str)) (.list (vs.map .str))) : M Bool)) >>= fun b => (pure (D.bl b) : M D))) = _
  rw [s1 ws h, s1 vs k, guard_true (show (true && true) = true from rfl), bind_pure']
  show (pure (D.bl (PyData.eqvAll (ws.map .str) (vs.map .str))) : M D) = _
  rw [eqv_strs]
/-- all of some truths -/
theorem all_bls (bs : List Bool) : oAll (.lst (bs.map .bl)) = pure (.bl (bs.all id)) := by
  have e : ∀ bs : List Bool, blsOf (bs.map .bl) = some bs := fun bs => by
    induction bs with
    | nil => rfl
    | cons b r ih => show (blsOf (r.map .bl)).map (b :: ·) = _; rw [ih]; rfl
  show ((pure (bs.map D.bl) : M (List D)) >>= fun ds => optM (blsOf ds) >>= fun bs => (pure (D.bl (bs.all id)) : M D)) = _
  rw [bind_pure', e, opt_some]
end DL
set_option Elab.async false
set_option linter.all false
set_option maxRecDepth 100000
set_option maxHeartbeats 2000000
/-! # Plain tools: ascending texts are the sorted texts of their set -/
namespace DL
open PySem L2
open PyProof.Rows hiding St
def ascB : List Str → Bool
  | a :: b :: r => cpsLt a b && ascB (b :: r)
  | _ => true
def ltAt (zs : List Str) (k : Nat) : Bool := match zs[k]?, zs[k + 1]? with
  | some a, some b => cpsLt a b
  | _, _ => false
theorem asc_range : ∀ zs : List Str, (List.range (zs.length - 1)).all (ltAt zs) = ascB zs
  | [] => rfl
  | [a] => rfl
  | a :: b :: r => by
    have ih := asc_range (b :: r)
    have e : (a :: b :: r).length - 1 = (b :: r).length - 1 + 1 := rfl
    rw [e, List.range_succ_eq_map, List.all_cons, List.all_map]
    show (cpsLt a b && (List.range ((b :: r).length - 1)).all (ltAt (b :: r))) = _
    rw [ih]
    rfl
theorem lt_le {a b : Str} (h : cpsLt a b = true) : leS a b = true := by
  have t := leS_total a b
  have q : leS b a = false := by unfold leS; rw [h]; rfl
  rw [q, Bool.or_false] at t
  exact t
theorem lt_trans' {a b c : Str} (h : cpsLt a b = true) (k : cpsLt b c = true) : cpsLt a c = true := by
  cases e : cpsLt a c with
  | true => rfl
  | false =>
    have q : leS c a = true := by unfold leS; rw [e]; rfl
    have r := leS_trans c a b q (lt_le h)
    unfold leS at r
    rw [k] at r
    cases r
theorem lt_ne {a b : Str} (h : cpsLt a b = true) : a ≠ b := fun e => by
  subst e
  have q := lt_le h
  unfold leS at q
  rw [h] at q
  cases q
theorem asc_pw : ∀ {zs : List Str}, ascB zs = true → zs.Pairwise (fun a b => cpsLt a b = true)
  | [], _ => .nil
  | [a], _ => by simp
  | a :: b :: r, h => by
    unfold ascB at h
    rw [Bool.and_eq_true] at h
    have ih := asc_pw h.2
    refine List.pairwise_cons.mpr ⟨fun y hy => ?_, ih⟩
    rcases List.mem_cons.mp hy with rfl | hy
    · exact h.1
    · exact lt_trans' h.1 ((List.pairwise_cons.mp ih).1 y hy)
theorem pw_asc : ∀ {zs : List Str}, zs.Pairwise (fun a b => leS a b = true) → zs.Nodup → ascB zs = true
  | [], _, _ => rfl
  | [a], _, _ => rfl
  | a :: b :: r, h, d => by
    obtain ⟨h1, h2⟩ := List.pairwise_cons.mp h
    obtain ⟨d1, d2⟩ := List.nodup_cons.mp d
    unfold ascB
    rw [pw_asc h2 d2, Bool.and_true]
    cases e : cpsLt a b with
    | true => rfl
    | false =>
      have q : leS b a = true := by unfold leS; rw [e]; rfl
      exact absurd (leS_anti a b (h1 b (by simp)) q) fun z => d1 (by rw [z]; simp)
theorem addS_mem {l : List Str} {k x : Str} : x ∈ addS l k ↔ x = k ∨ x ∈ l := by
  unfold addS
  split
  · rename_i q
    exact ⟨.inr, fun z => z.elim (fun e => by rw [e]; exact q) id⟩
  · exact List.mem_cons
theorem allS_mem : ∀ (r l : List Str) (x : Str), x ∈ allS l r ↔ x ∈ l ∨ x ∈ r
  | [], l, x => by simp [allS]
  | k :: r, l, x => by
    show x ∈ allS (addS l k) r ↔ _
    rw [allS_mem r, addS_mem, List.mem_cons]
    constructor
    · rintro ((h | h) | h)
      · exact .inr (.inl h)
      · exact .inl h
      · exact .inr (.inr h)
    · rintro (h | h | h)
      · exact .inl (.inr h)
      · exact .inl (.inl h)
      · exact .inr h
theorem allS_nodup : ∀ (r l : List Str), l.Nodup → (allS l r).Nodup
  | [], l, h => h
  | k :: r, l, h => allS_nodup r (addS l k) (addS_nodup h k)
theorem srtS_perm (l : List Str) : (srtS l).Perm l := List.mergeSort_perm l leS
theorem srtS_pw (l : List Str) : (srtS l).Pairwise (fun a b => leS a b = true) := List.pairwise_mergeSort (fun a b c => leS_trans a b c) (fun a b => by rw [leS_total]) l
/-- sorted lists of the same texts are the same -/
theorem srt_unique {l m : List Str} (p : l.Perm m) (h : l.Pairwise (fun a b => leS a b = true)) : l = srtS m := PySem.W.Srt.the_of_perm leS leS_trans leS_total leS_anti p h
/-- ascending: just the sorted texts of the set -/
theorem asc_iff (zs : List Str) : decide (zs = srtS (allS [] zs)) = ascB zs := by
  rw [Bool.eq_iff_iff, decide_eq_true_eq]
  have nd : (srtS (allS [] zs)).Nodup := (srtS_perm _).nodup_iff.mpr (allS_nodup zs [] List.nodup_nil)
  constructor
  · intro e
    rw [← e] at nd
    exact pw_asc (by rw [e]; exact srtS_pw _) nd
  · intro h
    have pw := asc_pw h
    have n1 : zs.Nodup := pw.imp fun q => lt_ne q
    refine srt_unique (nodup_perm n1 (fun x hx => (allS_mem zs [] x).mpr (.inr hx)) ?_) (pw.imp fun q => lt_le q)
    have := allS_len zs []
    simpa using this
end DL
set_option Elab.async false
set_option linter.all false
set_option maxRecDepth 100000
set_option maxHeartbeats 2000000
namespace DL
open PySem L2
/-! # Data of a bounded depth and weight: repr, == -/
structure GP (m w : Nat) (p : PyData) : Prop where
  ls : p.leavesShort 20 = true
  sh : p.showable = true
  dp : p.depth ≤ m
  wt : p.weight ≤ w
  hd : p.hasDict = false
  cl : p.canLay0 = true
theorem GP.mono {m w m' w' : Nat} {p : PyData} (h : GP m w p) (a : m ≤ m') (b : w ≤ w') : GP m' w' p := ⟨h.ls, h.sh, Nat.le_trans h.dp a, Nat.le_trans h.wt b, h.hd, h.cl⟩
structure GL (m w n : Nat) (ps : List PyData) : Prop where
  ls : PyData.leavesShortAll 20 ps = true
  sh : PyData.showableAll ps = true
  dp : PyData.depthAll ps ≤ m
  wt : PyData.weightAll ps ≤ n * (w + 1)
  hd : PyData.hasDictAll ps = false
  cl : PyData.canLayAll0 ps = true
theorem gpL {m w : Nat} : ∀ {ps : List PyData}, (∀ p ∈ ps, GP m w p) → GL m w ps.length ps
  | [], _ => ⟨rfl, rfl, by simp [PyData.depthAll], by simp [PyData.weightAll], rfl, rfl⟩
  | p :: r, h => by
    have k := h p (by simp)
    have ih := gpL (ps := r) fun x hx => h x (List.mem_cons_of_mem _ hx)
    have w1 := ih.wt
    have w2 := k.wt
    refine ⟨by simp [PyData.leavesShortAll, k.ls, ih.ls], by simp [PyData.showableAll, k.sh, ih.sh], ?_, ?_, by simp [PyData.hasDictAll, k.hd, ih.hd], by simp [PyData.canLayAll0, k.cl, ih.cl]⟩
    · have := ih.dp
      have := k.dp
      simp only [PyData.depthAll]
      omega
    · simp only [PyData.weightAll, List.length_cons]
      rw [Nat.succ_mul]
      omega
def GD (m w : Nat) (d : D) : Prop := ∃ p, d.py = some p ∧ GP m w p
theorem GD.mono {m w m' w' : Nat} {d : D} (h : GD m w d) (a : m ≤ m') (b : w ≤ w') : GD m' w' d := by
  obtain ⟨p, e, k⟩ := h
  exact ⟨p, e, k.mono a b⟩
theorem GD.of_nice {d : D} (h : d.nice = true) : GD 30 200 d := by
  obtain ⟨p, e, k⟩ := nice_py h
  have q := niceP_shaped k
  unfold niceP at k
  simp only [Bool.and_eq_true, decide_eq_true_eq, Bool.not_eq_true'] at k
  obtain ⟨k1, k2, k3, k4, k5, k6⟩ := k
  exact ⟨p, e, k1, k2, k3, k4, k5, SeqAt.canLay_of_shaped q⟩
theorem gdL {m w : Nat} : ∀ {ds : List D}, (∀ d ∈ ds, GD m w d) → ∃ ps, pyL ds = some ps ∧ ps.length = ds.length ∧ ∀ p ∈ ps, GP m w p
  | [], _ => ⟨[], rfl, rfl, by simp⟩
  | d :: r, h => by
    obtain ⟨p, e, k⟩ := h d (by simp)
    obtain ⟨ps, e2, l, k2⟩ := gdL (ds := r) fun x hx => h x (List.mem_cons_of_mem _ hx)
    refine ⟨p :: ps, by simp only [pyL, e, e2], by simp [l], fun x hx => ?_⟩
    rcases List.mem_cons.mp hx with rfl | hx
    · exact k
    · exact k2 x hx
theorem GD.tup {m w : Nat} {ds : List D} (h : ∀ d ∈ ds, GD m w d) : GD (m + 1) (ds.length * (w + 1)) (.tup ds) := by
  obtain ⟨ps, e, l, k⟩ := gdL h
  have g := gpL k
  rw [l] at g
  have d1 := g.dp
  refine ⟨.tuple ps, by show (pyL ds).map PyData.tuple = _; rw [e]; rfl, by simp only [PyData.leavesShort]; exact g.ls, by simp only [PyData.showable]; exact g.sh, ?_, by simp only [PyData.weight]; exact g.wt, by simp only [PyData.hasDict]; exact g.hd, by simp only [PyData.canLay0]; exact g.cl⟩
  simp only [PyData.depth]
  omega
theorem GD.lst {m w : Nat} {ds : List D} (h : ∀ d ∈ ds, GD m w d) : GD (m + 1) (ds.length * (w + 1)) (.lst ds) := by
  obtain ⟨ps, e, l, k⟩ := gdL h
  have g := gpL k
  rw [l] at g
  have d1 := g.dp
  refine ⟨.list ps, by show (pyL ds).map PyData.list = _; rw [e]; rfl, by simp only [PyData.leavesShort]; exact g.ls, by simp only [PyData.showable]; exact g.sh, ?_, by simp only [PyData.weight]; exact g.wt, by simp only [PyData.hasDict]; exact g.hd, by simp only [PyData.canLay0]; exact g.cl⟩
  simp only [PyData.depth]
  omega
theorem GP.shaped {m w : Nat} {p : PyData} (h : GP m w p) (a : m ≤ 64) : SeqAt.shaped p = true := by
  unfold SeqAt.shaped
  rw [h.cl, decide_eq_true (Nat.le_trans h.dp a)]
  rfl
theorem GP.showOk {m w : Nat} {p : PyData} (h : GP m w p) (a : m ≤ 40) (b : w ≤ 20000) : showOk p = true := by
  have s1 := PyData.shown_le 20 (by decide) p h.ls
  have w1 := h.wt
  unfold DL.showOk
  have hd := h.hd
  rw [h.sh, decide_eq_true (Nat.le_trans h.dp a), show szOk p.shown.length = true from decide_eq_true (by omega)]
  clear s1 w1
  cases p <;> first | rfl | (show (true && !_) = true; rw [hd]; rfl)
/-- no dict, no cell -/
def plainD (d : D) : Prop := ∀ p, d.py = some p → pyM d = pure p
theorem pyM_of {d : D} {p : PyData} (e : d.py = some p) : pyM d = pure p := by
  cases d <;> first | (cases e; done) | skip
  all_goals first
    | (cases e; rfl)
    | (rename_i ds; show (optM (D.py (.tup ds)) : M PyData) = _; rw [e]; rfl)
    | (rename_i ds; show (optM (D.py (.lst ds)) : M PyData) = _; rw [e]; rfl)
    | (rename_i ds; show (optM (D.py (.scr ds)) : M PyData) = _; rw [e]; rfl)
theorem GD.repr {m w : Nat} {d : D} (h : GD m w d) (a : m ≤ 40) (b : w ≤ 20000) : ∃ z, oRepr d = pure (.str z) := by
  obtain ⟨p, e, k⟩ := h
  refine ⟨p.shown, ?_⟩
  unfold oRepr
  rw [pyM_of e, bind_pure', guard_true (k.showOk a b)]
theorem GD.eqv {m w : Nat} {x y : D} {p q : PyData} (ex : x.py = some p) (ey : y.py = some q) (hp : GP m w p) (hq : GP m w q) (a : m ≤ 64) (hl : leafEq x y = none) : eqM x y = pure (PyData.eqv p q) := by
  unfold eqM
  rw [hl]
  show (pyM x >>= fun p => pyM y >>= fun q => guardM (SeqAt.shaped p && SeqAt.shaped q) >>= fun _ => (pure (PyData.eqv p q) : M Bool)) = _
  rw [pyM_of ex, bind_pure', pyM_of ey, bind_pure', hp.shaped a, hq.shaped a]
  rfl
theorem GD.self {m w : Nat} {d : D} (h : GD m w d) (a : m ≤ 64) : eqM d d = pure true := by
  obtain ⟨p, e, k⟩ := h
  cases hl : leafEq d d with
  | none => rw [GD.eqv e e k k a hl, PySem.SeqAt.eqv_refl p k.cl]
  | some b =>
    unfold eqM
    rw [hl]
    cases d <;> first | (cases e; done) | skip
    all_goals first | (cases hl; done) | skip
    · cases hl; rfl
    · rename_i x; cases x <;> (cases hl; rfl)
    · have : some (decide (_ = _)) = some b := hl
      simp at this
      subst this
      rfl
    · have : some (decide (_ = _)) = some b := hl
      simp at this
      subst this
      rfl
theorem GD.neSelf {m w : Nat} {d : D} (h : GD m w d) (a : m ≤ 64) : oNeS d d = pure (.bl false) := by
  unfold oNeS
  rw [h.self a]
  rfl
theorem GD.eqSelf {m w : Nat} {d : D} (h : GD m w d) (a : m ≤ 64) : oEqS d d = pure (.bl true) := by
  unfold oEqS
  rw [h.self a]
  rfl
theorem GD.nil {m w : Nat} {ds : List D} (h : ∀ d ∈ ds, GD m w d) (a : m ≤ 60) : oEqS (.lst ds) (.lst []) = pure (.bl ds.isEmpty) ∧ oNeS (.lst ds) (.lst []) = pure (.bl (!ds.isEmpty)) := by
  obtain ⟨p, e, k⟩ := GD.lst h
  have k2 : GP (m + 1) (ds.length * (w + 1)) (.list []) := ⟨rfl, rfl, by simp [PyData.depth, PyData.depthAll], by simp [PyData.weight, PyData.weightAll], rfl, rfl⟩
  have q : eqM (.lst ds) (.lst []) = pure (PyData.eqv p (.list [])) := GD.eqv e rfl k k2 (by omega) rfl
  have r : PyData.eqv p (.list []) = ds.isEmpty := by
    have e' : (pyL ds).map PyData.list = some p := e
    obtain ⟨ps, e1, rfl⟩ := Option.map_eq_some_iff.mp e'
    cases ds with
    | nil => cases e1; rfl
    | cons d r =>
      simp only [pyL] at e1
      split at e1
      · cases e1; rfl
      · cases e1
  unfold oEqS oNeS
  rw [q, r]
  exact ⟨rfl, rfl⟩
end DL
set_option Elab.async false
set_option linter.all false
set_option maxRecDepth 100000
set_option maxHeartbeats 2000000
namespace DL
open PySem L2 PyProof.Rows PySem.Builtin PySem.Builtin.Str
/-! # What repr writes is a text that can be compared -/
abbrev M0 : Nat := 0x110000
def Bd (z : Str) : Prop := ∀ c ∈ z.cps.toList, c < M0
theorem char_lt (ch : Char) : ch.toNat < M0 := by
  have h := ch.valid
  have e : ch.toNat = ch.val.toNat := rfl
  rw [e]
  rcases h with h | h
  · exact Nat.lt_of_lt_of_le h (by decide)
  · exact h.2
theorem bd_rc {q c : Nat} (hq : q < M0) (hc : c < M0) : ∀ e ∈ reprChar q c, e < M0 := by
  have hx : ∀ w, ∀ e ∈ List.replicate (w - ((Nat.toDigits 16 c).map Char.toNat).length) 48 ++ (Nat.toDigits 16 c).map Char.toNat, e < M0 := fun w e he => by
    rcases List.mem_append.mp he with he | he
    · rw [(List.mem_replicate.mp he).2]; decide
    · obtain ⟨ch, _, rfl⟩ := List.mem_map.mp he
      exact char_lt ch
  have h2 : ∀ a b : Nat, a < M0 → b < M0 → ∀ e ∈ [a, b], e < M0 := fun a b ha hb e he => by
    rcases List.mem_cons.mp he with rfl | he
    · exact ha
    · have : e = b := by simpa using he
      rw [this]; exact hb
  have h3 : ∀ a b w, a < M0 → b < M0 → ∀ e ∈ [a, b] ++ (List.replicate (w - ((Nat.toDigits 16 c).map Char.toNat).length) 48 ++ (Nat.toDigits 16 c).map Char.toNat), e < M0 := fun a b w ha hb e he => by
    rcases List.mem_append.mp he with he | he
    · exact h2 a b ha hb e he
    · exact hx w e he
  intro e he
  unfold reprChar at he
  dsimp only at he
  split at he
  · exact h2 92 c (by decide) hc e he
  · split at he
    · exact h2 92 110 (by decide) (by decide) e he
    · split at he
      · exact h2 92 114 (by decide) (by decide) e he
      · split at he
        · exact h2 92 116 (by decide) (by decide) e he
        · split at he
          · have : e = c := by simpa using he
            rw [this]; exact hc
          · split at he
            · exact h3 92 120 2 (by decide) (by decide) e he
            · split at he
              · exact h3 92 117 4 (by decide) (by decide) e he
              · exact h3 92 85 8 (by decide) (by decide) e he
theorem bd_fold {q : Nat} (hq : q < M0) : ∀ (l : List Nat) (acc : Array Nat), (∀ c ∈ l, c < M0) → (∀ e ∈ acc.toList, e < M0) → ∀ e ∈ (l.foldl (fun out c => out ++ (reprChar q c).toArray) acc).toList, e < M0
  | [], acc, _, h => h
  | c :: r, acc, hl, h => by
    refine bd_fold hq r _ (fun x hx => hl x (List.mem_cons_of_mem _ hx)) fun e he => ?_
    rw [Array.toList_append, List.mem_append] at he
    rcases he with he | he
    · exact h e he
    · exact bd_rc hq (hl c (by simp)) e he
theorem bd_text {x : Str} (h : Bd x) : Bd (reprText x) := by
  have hq : reprQuote x < M0 := by unfold reprQuote; split <;> decide
  intro c hc
  unfold reprText at hc
  have hc' : c ∈ ((x.cps.foldl (fun out c => out ++ (reprChar (reprQuote x) c).toArray) #[reprQuote x]).push (reprQuote x)).toList := hc
  rw [Array.toList_push, List.mem_append, ← Array.foldl_toList] at hc'
  rcases hc' with hc' | hc'
  · refine bd_fold hq _ _ h (fun e he => ?_) c hc'
    have : e = reprQuote x := by simpa using he
    rw [this]; exact hq
  · have : c = reprQuote x := by simpa using hc'
    rw [this]; exact hq
theorem bd_app {a b : Str} (h : Bd a) (k : Bd b) : Bd (a ++ b) := fun c hc => by
  rcases mem_cps_append.mp hc with hc | hc
  · exact h c hc
  · exact k c hc
theorem bd_join {sep : Str} {ts : List Str} (h : Bd sep) (k : ∀ t ∈ ts, Bd t) : Bd (Str.join sep ts) := fun c hc => by
  rcases (mem_join sep c ts).mp hc with ⟨t, ht, hc⟩ | ⟨_, hc⟩
  · exact k t ht c hc
  · exact h c hc
theorem bd_ofString (z : String) : Bd (z : Str) := fun c hc => by
  rw [signs_ofString] at hc
  obtain ⟨ch, _, rfl⟩ := List.mem_map.mp hc
  exact char_lt ch
mutual
theorem bd_shown : ∀ p : PyData, p.canLay0 = true → Bd p.shown
  | .none, _ => bd_ofString "None"
  | .bool b, _ => by
    cases b
    · exact bd_ofString "False"
    · exact bd_ofString "True"
  | .int i, _ => bd_ofString (toString i)
  | .str x, h => bd_text fun c hc => by
    have h' : x.cps.all (· < 0x110000) = true := h
    rw [Array.all_eq_true] at h'
    obtain ⟨i, hi, e⟩ := List.getElem_of_mem hc
    have := h' i (by simpa using hi)
    rw [← e]
    simpa using this
  | .list xs, h => by
    rw [PyData.shown_list]
    exact bd_app (bd_app (bd_ofString "[") (bd_join (bd_ofString ", ") (bd_all xs h))) (bd_ofString "]")
  | .tuple xs, h => by
    rw [PyData.shown_tuple]
    exact bd_app (bd_app (bd_ofString "(") (bd_join (bd_ofString ", ") (bd_all xs h))) (bd_ofString _)
  | .dict _, h => by cases h
theorem bd_all : ∀ xs : List PyData, PyData.canLayAll0 xs = true → ∀ t ∈ PyData.shownAll xs, Bd t
  | [], _, t, ht => by cases ht
  | x :: r, h, t, ht => by
    have h' : (x.canLay0 && PyData.canLayAll0 r) = true := h
    rw [Bool.and_eq_true] at h'
    have ht' : t ∈ x.shown :: PyData.shownAll r := ht
    rcases List.mem_cons.mp ht' with rfl | ht'
    · exact bd_shown x h'.1
    · exact bd_all r h'.2 t ht'
end
theorem strOk_bd {z : Str} (h : Bd z) : PyData.strOk z = true := by
  unfold PyData.strOk
  rw [Array.all_eq_true]
  intro i hi
  exact decide_eq_true (h _ (by simp))
/-- repr of small data: a text that can be compared -/
theorem GD.reprB {m w : Nat} {d : D} (h : GD m w d) (a : m ≤ 40) (b : w ≤ 20000) : ∃ z, oRepr d = pure (.str z) ∧ Bd z := by
  obtain ⟨p, e, k⟩ := h
  refine ⟨p.shown, ?_, bd_shown p k.cl⟩
  unfold oRepr
  rw [pyM_of e, bind_pure', guard_true (k.showOk a b)]
/-- two texts in a list, told apart from themselves -/
theorem ne_two {y z : Str} (hy : Bd y) (hz : Bd z) : oNeS (.lst [.str y, .str z]) (.lst [.str y, .str z]) = pure (.bl false) := by
  have s1 : SeqAt.shaped (.list [.str y, .str z]) = true := by
    unfold SeqAt.shaped
    rw [Bool.and_eq_true]
    refine ⟨?_, decide_eq_true (by simp [PyData.depth, PyData.depthAll])⟩
    show (PyData.strOk y && (PyData.strOk z && true)) = true
    rw [strOk_bd hy, strOk_bd hz]
    rfl
  have c1 : (PyData.list [.str y, .str z]).canLay0 = true := SeqAt.canLay_of_shaped s1
  show (((guardM (SeqAt.shaped (.list [.str y, .str z]) && SeqAt.shaped (.list [.str y, .str z])) >>= fun _ => (pure (PyData.eqv (.list [.str y, .str z]) (.list [.str y, .str z])) : M Bool)) >>= fun b => (pure (D.bl (!b)) : M D))) = _
  rw [s1, PySem.SeqAt.eqv_refl _ c1]
  rfl
end DL
set_option Elab.async false
set_option linter.all false
set_option maxRecDepth 100000
set_option maxHeartbeats 2000000
namespace Lw
open PySem L2 DL
/-- the stream: a cell of two ints, not below nought -/
def St (n : Nat) (s : S) : Prop := ∃ a b : Int, 0 ≤ a ∧ 0 ≤ b ∧ s[n]? = some (some (.lst [.int a, .int b]))
theorem mulOk_r {i j : Int} (h : -(2 ^ 64) < j) (k : j < 2 ^ 64) : mulOk i j = true := by
  unfold mulOk
  rw [decide_eq_true h, decide_eq_true k]
  simp
theorem divOk_of {i j : Int} (h : 0 < j) (k : j < 2 ^ 64) : divOk i j = true := by
  unfold divOk
  rw [decide_eq_true h, decide_eq_true k]
  rfl
/-- the stream of now, all other cells as they were -/
def Fr (n : Nat) (s0 s : S) : Prop := St n s ∧ ∀ m, m ≠ n → s[m]? = s0[m]?
theorem fr_set {n : Nat} {s0 s : S} {x : Option O} (h : ∀ m, m ≠ n → s[m]? = s0[m]?) : ∀ m, m ≠ n → (s.set n x)[m]? = s0[m]? := fun m hm => by rw [List.getElem?_set_ne (Ne.symm hm)]; exact h m hm
theorem Tr.fr {α : Type} {n : Nat} {m : M α} {P : α → Prop} (h : ∀ s0, Tr (Fr n s0) m P) : Tr (St n) m P := fun s hs => by
  obtain ⟨x, s', e, p, q⟩ := h s s ⟨hs, fun _ _ => rfl⟩
  exact ⟨x, s', e, p, q.1⟩
theorem draw_fr (n : Nat) (s0 : S) (c : Int) (hc : 0 < c) (hc2 : c < 2 ^ 64) : Tr (Fr n s0) (m__law_draw [.loc n, .int c]) (fun d => ∃ i : Int, d = .int i ∧ 0 ≤ i ∧ i < c) := by
  rintro s ⟨⟨a, b, ha, hb, hs⟩, hf⟩
  have e0 : atI [D.int a, D.int b] 0 = some (.int a) := rfl
  have e1 : atI [D.int a, D.int b] 1 = some (.int b) := rfl
  have k0 : ∀ (x y : D), ixN [x, y].length 0 = some 0 := fun _ _ => rfl
  have k1 : ∀ (x y : D), ixN [x, y].length 1 = some 1 := fun _ _ => rfl
  unfold m__law_draw b__law_draw
  simp only [mFn_run, ent, runS_ifS, runS_assoc, runS_set, runS_setix, runS_retS, runS_ret, runS_next, eVar, eK, eBin, eIx, eB, on1, aCons, aNil, tOf, bind_assoc', bind_pure', List.map, List.length, List.replicate, List.append, List.nil_append, List.cons_append, List.getElem?_cons_zero, List.getElem?_cons_succ, List.set]
  rw [oIx_loc hs e0]
  simp only [oGt_int, asB_bl, bind_pure']
  by_cases h : 0 < a
  · rw [decide_eq_true h, if_t]
    rw [oIx_loc hs e0]
    simp only [oInt_int, oMod_int, bind_pure', bind_assoc', guard_true (decide_eq_true hc)]
    rw [oIx_loc hs e0]
    simp only [oDiv_int, bind_pure', bind_assoc', guard_true (divOk_of hc hc2)]
    rw [setIx_loc hs (k0 _ _)]
    exact ⟨_, _, rfl, ⟨_, rfl, Int.emod_nonneg _ (by omega), Int.emod_lt_of_pos _ hc⟩, ⟨a / c, b, Int.ediv_nonneg ha (by omega), hb, set_at hs⟩, fr_set hf⟩
  · rw [decide_eq_false h, if_f]
    rw [oIx_loc hs e1]
    simp only [oMul_int, bind_assoc', bind_pure', guard_true (mulOk_r (show -(2 ^ 64) < (39373 : Int) by decide) (by decide)), oAdd_int, oInt_int, oMod_int, guard_true (show decide ((0 : Int) < 2147483647) = true by decide)]
    rw [setIx_loc hs (k1 _ _)]
    have b0 : 0 ≤ (b * 39373 + 7) % 2147483647 := Int.emod_nonneg _ (by decide)
    have b1 : (b * 39373 + 7) % 2147483647 < 2147483647 := Int.emod_lt_of_pos _ (by decide)
    have hs2 := set_at (y := some (O.lst [D.int a, D.int ((b * 39373 + 7) % 2147483647)])) hs
    have e2 : atI [D.int a, D.int ((b * 39373 + 7) % 2147483647)] 1 = some (.int ((b * 39373 + 7) % 2147483647)) := rfl
    show ∃ x s', (oIx (.loc n) (.int 1) >>= _) (s.set n (some (.lst [D.int a, D.int ((b * 39373 + 7) % 2147483647)]))) = R.ok x s' ∧ _
    rw [oIx_loc hs2 e2]
    rw [oIx_loc hs2 e2]
    simp only [oMul_int, bind_assoc', bind_pure', guard_true (mulOk_r (i := (b * 39373 + 7) % 2147483647) (j := (b * 39373 + 7) % 2147483647) (by omega) (by omega)), oInt_int, oMod_int, guard_true (show decide ((0 : Int) < 2147483629) = true by decide), oDiv_int, guard_true (divOk_of (i := _) (show (0 : Int) < 32 by decide) (by decide)), guard_true (decide_eq_true hc)]
    exact ⟨_, _, rfl, ⟨_, rfl, Int.emod_nonneg _ (by omega), Int.emod_lt_of_pos _ hc⟩, ⟨a, _, ha, b0, hs2⟩, fr_set hf⟩
theorem draw_ok (n : Nat) (c : Int) (hc : 0 < c) (hc2 : c < 2 ^ 64) : Tr (St n) (m__law_draw [.loc n, .int c]) (fun d => ∃ i : Int, d = .int i ∧ 0 ≤ i ∧ i < c) := Tr.fr fun s0 => draw_fr n s0 c hc hc2
theorem choose_fr (n : Nat) (s0 : S) (ds : List D) (h0 : ds ≠ []) (hl : ds.length < 2 ^ 64) : Tr (Fr n s0) (m__law_choose [.loc n, .lst ds]) (fun d => d ∈ ds) := by
  have hp : 0 < ds.length := List.length_pos_iff.mpr h0
  unfold m__law_choose b__law_choose
  simp only [mFn_run, ent, runS_ret, eVar, eBin, eIx, eB, on1, aCons, aNil, eCall, bind_assoc', bind_pure', List.map, List.length, List.replicate, List.append, List.nil_append, List.cons_append, List.getElem?_cons_zero, List.getElem?_cons_succ, List.append_nil]
  refine Tr.bind (P := fun d => d = .int ds.length) (fun s hs => ⟨_, s, rfl, rfl, hs⟩) fun d hd => ?_
  subst hd
  refine Tr.bind (Tr.guard (P := fun _ => True) (by rfl) trivial) fun _ _ => ?_
  refine Tr.bind (draw_fr n s0 ds.length (by omega) (by omega)) fun d hd => ?_
  obtain ⟨i, rfl, h1, h2⟩ := hd
  obtain ⟨x, hx, hm⟩ := atI_lt h1 h2
  rw [oIx_lst]
  exact Tr.opt hx hm
theorem choose_ok (n : Nat) (ds : List D) (h0 : ds ≠ []) (hl : ds.length < 2 ^ 64) : Tr (St n) (m__law_choose [.loc n, .lst ds]) (fun d => d ∈ ds) := Tr.fr fun s0 => choose_fr n s0 ds h0 hl
theorem max_abs (c : Int) : ∃ z : Int, 0 ≤ z ∧ (if -1 - c > c then -1 - c else c) = z := by
  by_cases h : -1 - c > c
  · exact ⟨-1 - c, by omega, if_pos h⟩
  · exact ⟨c, by omega, if_neg h⟩
def sa3 : LE → M D := eB (on2 oMax2) (aCons (eB (on1 oInt) (aCons (eVar 2) aNil)) (aCons (eB (on1 oInt) (aCons (eBin oSub (eNeg (eK (.int 1))) (eVar 2)) aNil)) aNil))
def sa4 : LE → M D := eBin oMod (eB (on1 oInt) (aCons (eBin oMul (eBin oAdd (eBin oAdd (eBin oAdd (eBin oMod (eB (on1 oInt) (aCons (eVar 3) aNil)) (eK (.int 2147483629))) (eBin oMul (eBin oMul (eK (.int 7919)) (eVar 1)) (eVar 1))) (eBin oMul (eK (.int 31)) (eVar 1))) (eK (.int 17))) (eK (.int 48271))) aNil)) (eK (.int 2147483647))
def sa5 : LE → M D := eLoc (nLst (aCons (eBin oMul (eVar 3) (eB (on1 oInt) (aCons (eBin oGe (eVar 3) (eBin oPow (eK (.int 10)) (eK (.int 18)))) aNil))) (aCons (eVar 4) aNil)))
theorem sa3_ok (ns : List Int) (k c : Int) : ∃ z : Int, 0 ≤ z ∧ sa3 [some (.val (.scr ns)), some (.val (.int k)), some (.val (.int c)), none, none] = pure (.int z) := by
  obtain ⟨z, hz, ez⟩ := max_abs c
  refine ⟨z, hz, ?_⟩
  unfold sa3 eB eBin eNeg
  simp only [aCons, aNil, eK, eVar, bind_assoc', bind_pure', List.getElem?_cons_zero, List.getElem?_cons_succ, on1, on2, oNeg_int, oSub_int, oInt_int, oMax2_int, ez]
theorem eBin_of {f : D → D → M D} {ma mb : LE → M D} {env : LE} {x y : D} (h : ma env = pure x) (k : mb env = pure y) : eBin f ma mb env = f x y := by
  unfold eBin
  rw [h, bind_pure', k, bind_pure']
theorem eB1_of {f : D → M D} {ma : LE → M D} {env : LE} {x : D} (h : ma env = pure x) : eB (on1 f) (aCons ma aNil) env = f x := by
  unfold eB aCons aNil
  rw [h]
  rfl
theorem o_mul {i j : Int} (h : -(2 ^ 64) < j) (k : j < 2 ^ 64) : oMul (.int i) (.int j) = pure (.int (i * j)) := by
  rw [oMul_int, guard_true (mulOk_r h k)]
theorem o_mod {i j : Int} (h : 0 < j) : oMod (.int i) (.int j) = pure (.int (i % j)) := by
  rw [oMod_int, guard_true (decide_eq_true h)]
theorem sa4_ok (ns : List Int) (k : Nat) (hk : k < 1000) (c z : Int) : ∃ w : Int, 0 ≤ w ∧ sa4 [some (.val (.scr ns)), some (.val (.int k)), some (.val (.int c)), some (.val (.int z)), none] = pure (.int w) := by
  generalize he : ([some (.val (.scr ns)), some (.val (.int k)), some (.val (.int c)), some (.val (.int z)), none] : LE) = env
  have v1 : eVar 1 env = pure (.int k) := by rw [← he]; rfl
  have v3 : eVar 3 env = pure (.int z) := by rw [← he]; rfl
  have kk : ∀ i : Int, eK (.int i) env = pure (.int i) := fun _ => rfl
  have i3 : eB (on1 oInt) (aCons (eVar 3) aNil) env = pure (.int z) := eB1_of (f := oInt) v3
  have h1 : eBin oMod (eB (on1 oInt) (aCons (eVar 3) aNil)) (eK (.int 2147483629)) env = pure (.int (z % 2147483629)) := (eBin_of i3 (kk 2147483629)).trans (o_mod (by decide))
  have h2 : eBin oMul (eK (.int 7919)) (eVar 1) env = pure (.int (7919 * k)) := (eBin_of (kk 7919) v1).trans (o_mul (by omega) (by omega))
  have h3 : eBin oMul (eBin oMul (eK (.int 7919)) (eVar 1)) (eVar 1) env = pure (.int (7919 * k * k)) := (eBin_of h2 v1).trans (o_mul (by omega) (by omega))
  have h4 : eBin oMul (eK (.int 31)) (eVar 1) env = pure (.int (31 * k)) := (eBin_of (kk 31) v1).trans (o_mul (by omega) (by omega))
  have h5 := (eBin_of h1 h3).trans (oAdd_int (i := z % 2147483629))
  have h6 := (eBin_of h5 h4).trans (oAdd_int (j := 31 * (k : Int)))
  have h7 := (eBin_of h6 (kk 17)).trans (oAdd_int (j := 17))
  generalize z % 2147483629 + 7919 * (k : Int) * k + 31 * k + 17 = t at h7
  have h8 := (eBin_of h7 (kk 48271)).trans (o_mul (i := t) (j := 48271) (by decide) (by decide))
  have h9 := (eBin_of (eB1_of (f := oInt) h8) (kk 2147483647)).trans (o_mod (i := t * 48271) (j := 2147483647) (by decide))
  exact ⟨t * 48271 % 2147483647, Int.emod_nonneg _ (by decide), h9⟩
theorem p18 : powOk 10 18 = true := by decide +kernel
theorem sa5_ok (ns : List Int) (k c z w : Int) (hz : 0 ≤ z) (hw : 0 ≤ w) (s : S) : ∃ s', sa5 [some (.val (.scr ns)), some (.val (.int k)), some (.val (.int c)), some (.val (.int z)), some (.val (.int w))] s = .ok (.loc s.length) s' ∧ St s.length s' := by
  obtain ⟨t, et⟩ : ∃ t : Int, (10 : Int) ^ (18 : Int).toNat = t := ⟨_, rfl⟩
  have e1 : oPow (.int 10) (.int 18) = pure (.int t) := by
    rw [oPow_int, guard_true p18, et]
  obtain ⟨b, eb, hb⟩ : ∃ b : Int, (if decide (t ≤ z) = true then 1 else 0) = b ∧ (b = 0 ∨ b = 1) := ⟨_, rfl, by split <;> simp⟩
  have mb : mulOk z b = true := by
    rcases hb with rfl | rfl
    · exact mulOk_r (by decide) (by decide)
    · exact mulOk_r (by decide) (by decide)
  obtain ⟨u, hu, eu⟩ : ∃ u : Int, 0 ≤ u ∧ z * b = u := ⟨_, by rcases hb with rfl | rfl <;> omega, rfl⟩
  have e2 : aCons (eBin oMul (eVar 3) (eB (on1 oInt) (aCons (eBin oGe (eVar 3) (eBin oPow (eK (.int 10)) (eK (.int 18)))) aNil))) (aCons (eVar 4) aNil) [some (.val (.scr ns)), some (.val (.int k)), some (.val (.int c)), some (.val (.int z)), some (.val (.int w))] = pure [.int u, .int w] := by
    unfold eB
    simp only [aCons, aNil, eBin, eK, eVar, on1, bind_assoc', bind_pure', List.getElem?_cons_zero, List.getElem?_cons_succ, e1, oGe_int, oInt_bl, eb, oMul_int, guard_true mb, eu]
  unfold sa5 eLoc nLst
  rw [e2]
  exact ⟨s ++ [some (O.lst [.int u, .int w])], rfl, u, w, hu, hw, by rw [List.getElem?_append_right (Nat.le_refl _), Nat.sub_self]; exact List.getElem?_cons_zero⟩
/-- the stream of a script number -/
theorem stream_ok (ns : List Int) (k : Nat) (hk : k < 1000) (s : S) : ∃ s', m__law_stream [.scr ns, .int k] s = .ok (.loc s.length) s' ∧ St s.length s' := by
  have key : ∀ c : Int, ∃ s', runS (sSeq (sSet 3 sa3) (sSeq (sSet 4 sa4) (sRet sa5))) [some (.val (.scr ns)), some (.val (.int k)), some (.val (.int c)), none, none] s = .ok (.loc s.length) s' ∧ St s.length s' := by
    intro c
    obtain ⟨z, hz, e3⟩ := sa3_ok ns k c
    obtain ⟨w, hw, e4⟩ := sa4_ok ns k hk c z
    rw [runS_set, e3, bind_pure']
    rw [show ([some (.val (.scr ns)), some (.val (.int k)), some (.val (.int c)), none, none] : LE).set 3 (some (.val (.int z))) = [some (.val (.scr ns)), some (.val (.int k)), some (.val (.int c)), some (.val (.int z)), none] from rfl]
    rw [runS_set, e4, bind_pure', runS_ret]
    exact sa5_ok ns k c z w hz hw s
  have ht : tOf (eBin oLt (eVar 1) (eB (on1 oLen) (aCons (eVar 0) aNil))) [some (.val (.scr ns)), some (.val (.int k)), some (.val (.int 0)), none, none] = pure (decide ((k : Int) < ((ns.map D.int).length : Nat))) := rfl
  have hx : eIx (eVar 0) (eVar 1) [some (.val (.scr ns)), some (.val (.int k)), some (.val (.int 0)), none, none] = optM (atI (ns.map D.int) k) := rfl
  have hb : b__law_stream = sSeq (sSet 2 (eK (.int 0))) (sSeq (sIf (tOf (eBin oLt (eVar 1) (eB (on1 oLen) (aCons (eVar 0) aNil)))) (sSet 2 (eIx (eVar 0) (eVar 1))) sNext) (sSeq (sSet 3 sa3) (sSeq (sSet 4 sa4) (sRet sa5)))) := rfl
  unfold m__law_stream
  rw [hb, mFn_run, runS_set]
  rw [show eK (.int 0) (ent 5 [.scr ns, .int k]) = pure (.int 0) from rfl, bind_pure']
  rw [show (ent 5 [.scr ns, .int k]).set 2 (some (.val (.int 0))) = [some (.val (.scr ns)), some (.val (.int k)), some (.val (.int 0)), none, none] from rfl]
  rw [runS_ifS, ht, bind_pure']
  by_cases h : (k : Int) < ((ns.map D.int).length : Nat)
  · rw [decide_eq_true h, if_t, runS_set, hx]
    have hk' : k < (ns.map D.int).length := by omega
    obtain ⟨c, hc⟩ : ∃ c : Int, (ns.map D.int)[k]? = some (.int c) := by
      rw [List.length_map] at hk'
      exact ⟨ns[k], by rw [List.getElem?_map, List.getElem?_eq_getElem hk']; rfl⟩
    rw [DL.atI_nat hc, opt_some]
    rw [show ([some (.val (.scr ns)), some (.val (.int k)), some (.val (.int 0)), none, none] : LE).set 2 (some (.val (.int c))) = [some (.val (.scr ns)), some (.val (.int k)), some (.val (.int c)), none, none] from rfl]
    exact key c
  · rw [decide_eq_false h, if_f, runS_next]
    exact key 0
end Lw
set_option Elab.async false
set_option linter.all false
set_option maxRecDepth 100000
set_option maxHeartbeats 2000000
namespace Lw
open PySem L2 DL
abbrev cs (z : Str) : List Nat := z.cps.toList
/-- a word of the law: up to eight small letters -/
def isW (z : Str) : Prop := 1 ≤ (cs z).length ∧ (cs z).length ≤ 8 ∧ ∀ c ∈ cs z, 97 ≤ c ∧ c ≤ 122
def isL (z : Str) : Prop := ∀ c ∈ cs z, 97 ≤ c ∧ c ≤ 122
abbrev abc : Str := "abcdefghijklmnopqrstuvwxyz"
theorem abc_all : (cs abc).all (fun c => decide (97 ≤ c) && decide (c ≤ 122)) = true := by decide +kernel
theorem abc_len : (cs abc).length = 26 := by decide +kernel
theorem abc_mem {c : Nat} (h : c ∈ cs abc) : 97 ≤ c ∧ c ≤ 122 := by
  have := List.all_eq_true.mp abc_all c h
  rw [Bool.and_eq_true] at this
  exact ⟨of_decide_eq_true this.1, of_decide_eq_true this.2⟩
/-- a letter, chosen -/
theorem letter_ok (n : Nat) : Tr (St n) (m__law_choose [.loc n, .str abc]) (fun d => ∃ c : Nat, d = .str ⟨#[c]⟩ ∧ 97 ≤ c ∧ c ≤ 122) := by
  unfold m__law_choose b__law_choose
  simp only [mFn_run, ent, runS_ret, eVar, eBin, eIx, eB, on1, aCons, aNil, eCall, bind_assoc', bind_pure', List.map, List.length, List.replicate, List.append, List.nil_append, List.cons_append, List.getElem?_cons_zero, List.getElem?_cons_succ, List.append_nil]
  refine Tr.bind (P := fun d => d = .int 26) (fun s hs => ⟨_, s, rfl, rfl, hs⟩) fun d hd => ?_
  subst hd
  refine Tr.bind (Tr.guard (P := fun _ => True) (by rfl) trivial) fun _ _ => ?_
  refine Tr.bind (draw_ok n 26 (by decide) (by decide)) fun d hd => ?_
  obtain ⟨i, rfl, h1, h2⟩ := hd
  obtain ⟨x, hx, hm⟩ := atI_lt (l := cs abc) h1 (by rw [abc_len]; exact h2)
  show Tr (St n) (guardM (szOk abc.length) >>= fun _ => optM (atI (cs abc) i) >>= fun c => pure (D.str ⟨#[c]⟩)) _
  refine Tr.bind (Tr.guard (P := fun _ => True) (by rfl) trivial) fun _ _ => ?_
  refine Tr.bind (P := fun c => c ∈ cs abc) (Tr.opt hx hm) fun c hc => ?_
  exact Tr.pure ⟨c, rfl, (abc_mem hc).1, (abc_mem hc).2⟩
theorem strsOf_map : ∀ zs : List Str, strsOf (zs.map .str) = some zs
  | [] => rfl
  | z :: r => by
    show (strsOf (r.map .str)).map (z :: ·) = _
    rw [strsOf_map r]
    rfl
/-- strs of a property, among data -/
theorem strs_of {P : Str → Prop} : ∀ {r : List D}, (∀ x ∈ r, ∃ z, x = .str z ∧ P z) → ∃ zs : List Str, r = zs.map .str ∧ ∀ z ∈ zs, P z
  | [], _ => ⟨[], rfl, by simp⟩
  | x :: r, h => by
    obtain ⟨z, rfl, pz⟩ := h x (by simp)
    obtain ⟨zs, rfl, q⟩ := strs_of (r := r) fun y hy => h y (List.mem_cons_of_mem _ hy)
    exact ⟨z :: zs, rfl, fun y hy => by
      rcases List.mem_cons.mp hy with rfl | hy
      · exact pz
      · exact q y hy⟩
theorem cs_app (a b : Str) : cs (a ++ b) = cs a ++ cs b := by
  show (a.cps ++ b.cps).toList = _
  exact Array.toList_append
theorem joinL_nil : ∀ ps : List (List Nat), TL.joinL [] ps = ps.flatten
  | [] => rfl
  | [p] => by simp [TL.joinL]
  | p :: q :: r => by
    show p ++ ([] ++ TL.joinL [] (q :: r)) = _
    rw [joinL_nil (q :: r), List.nil_append]
    simp
theorem cs_join0 (zs : List Str) : cs (Txt.join "" zs) = (zs.map cs).flatten := by
  rw [TL.join_eq, show cs (Str.join "" zs) = _ from TL.tl_join "" zs]
  exact joinL_nil _
/-- letters joined -/
theorem letters_join : ∀ (zs : List Str), (∀ z ∈ zs, ∃ c : Nat, z = ⟨#[c]⟩ ∧ 97 ≤ c ∧ c ≤ 122) → (zs.map cs).flatten.length = zs.length ∧ ∀ c ∈ (zs.map cs).flatten, 97 ≤ c ∧ c ≤ 122
  | [], _ => ⟨rfl, by simp⟩
  | z :: r, h => by
    obtain ⟨c, rfl, h1, h2⟩ := h _ (List.mem_cons_self ..)
    obtain ⟨i1, i2⟩ := letters_join r fun y hy => h y (List.mem_cons_of_mem _ hy)
    rw [List.map_cons, List.flatten_cons, show cs ⟨#[c]⟩ = [c] from rfl]
    refine ⟨by rw [List.length_append, i1]; simp [Nat.add_comm], fun x hx => ?_⟩
    rcases List.mem_append.mp hx with hx | hx
    · have : x = c := by simpa using hx
      omega
    · exact i2 x hx
theorem len_cs (z : Str) : z.length = (cs z).length := by
  show z.cps.size = _
  exact Array.length_toList.symm
/-- a part of a word: up to three letters -/
def part3 (env : LE) (n : Nat) : Prop := env[0]? = some (some (.val (.loc n))) ∧ env[2]? = some (some (.val (.str abc)))
theorem rg1_ok {n : Nat} {env : LE} (h : env[0]? = some (some (.val (.loc n)))) (k : Int) (hk : 0 < k) (hk2 : k < 100) :
    Tr (St n) (iRg1 (eCall 2 m__law_draw [] (aCons (eVar 0) (aCons (eK (.int k)) aNil))) env) (fun ds => (ds.length : Int) < k) := by
  unfold iRg1 eCall
  simp only [aCons, aNil, eK, bind_assoc', bind_pure']
  have e0 : eVar 0 env = pure (.loc n) := by unfold eVar; rw [h]
  rw [e0]
  simp only [bind_pure', List.append_nil]
  refine Tr.bind (Tr.guard (P := fun _ => True) (by rfl) trivial) fun _ _ => ?_
  refine Tr.bind (draw_ok n k hk (by omega)) fun d hd => ?_
  obtain ⟨i, rfl, h1, h2⟩ := hd
  refine Tr.bind (P := fun j => j = i) (Tr.opt rfl rfl) fun j hj => ?_
  subst hj
  refine Tr.bind (Tr.guard (P := fun _ => True) (by unfold rgOk; rw [decide_eq_true (by omega), decide_eq_true (by omega)] <;> rfl) trivial) fun _ _ => ?_
  refine Tr.pure ?_
  unfold rangeD
  simp
  omega
theorem part_ok {n : Nat} {env : LE} (hl : env.length = 9) (h : part3 env n) :
    Tr (St n) (eJoin (eK (.str "")) (eFrz (nLc (iRg1 (eCall 2 m__law_draw [] (aCons (eVar 0) (aCons (eK (.int 4)) aNil)))) (gN 5) tTrue (eCall 2 m__law_choose [] (aCons (eVar 0) (aCons (eVar 2) aNil))) [5])) env) (fun d => ∃ z : Str, d = .str z ∧ (cs z).length ≤ 3 ∧ isL z) := by
  unfold eJoin eFrz nLc
  simp only [eK, bind_assoc', bind_pure', strM]
  refine Tr.bind (rg1_ok h.1 4 (by decide) (by decide)) fun ds hds => ?_
  refine Tr.bind (Tr.noX (Tr.lc (P := fun d => ∃ z : Str, d = .str z ∧ ∃ c : Nat, z = ⟨#[c]⟩ ∧ 97 ≤ c ∧ c ≤ 122) ds [] (fun d _ => ⟨_, rfl, ?_⟩) (by simp; omega))) fun r hr => ?_
  · have g0 : ∀ x, (((env.set 5 none).set 5 x))[0]? = env[0]? := fun x => by simp
    have g2 : ∀ x, (((env.set 5 none).set 5 x))[2]? = env[2]? := fun x => by simp
    have e0 : ∀ x, eVar 0 ((env.set 5 none).set 5 x) = pure (.loc n) := fun x => by unfold eVar; rw [g0, h.1]
    have e2 : ∀ x, eVar 2 ((env.set 5 none).set 5 x) = pure (.str abc) := fun x => by unfold eVar; rw [g2, h.2]
    unfold eCall wipeE
    simp only [aCons, aNil, bind_assoc', bind_pure', wipeE]
    rw [e0, e2]
    simp only [bind_pure', List.append_nil]
    refine Tr.bind (Tr.guard (P := fun _ => True) (by rfl) trivial) fun _ _ => ?_
    exact (letter_ok n).imp fun d hd => by
      obtain ⟨c, rfl, h1, h2⟩ := hd
      exact ⟨_, rfl, c, rfl, h1, h2⟩
  · obtain ⟨r1, r2⟩ := hr
    obtain ⟨zs, rfl, hz⟩ := strs_of (P := fun z => ∃ c : Nat, z = ⟨#[c]⟩ ∧ 97 ≤ c ∧ c ≤ 122) (r := r) fun x hx => by
      rcases r2 x hx with q | ⟨z, e, q⟩
      · cases q
      · exact ⟨z, e, q⟩
    simp only [bind_pure', O.dat]
    show Tr (St n) (optM (strsOf (zs.map .str)) >>= _) _
    rw [strsOf_map]
    simp only [opt_some]
    obtain ⟨l1, l2⟩ := letters_join zs hz
    have hlen : zs.length ≤ 3 := by
      have : (zs.map D.str).length = ([] : List D).length + ds.length := r1
      simp at this
      omega
    refine Tr.bind (Tr.guard (P := fun _ => True) (decide_eq_true ?_) trivial) fun _ _ => ?_
    · have s1 : (zs.map (·.length)).sum = (zs.map cs).flatten.length := by
        rw [List.length_flatten, List.map_map]
        congr 1
      rw [s1, l1]
      show zs.length + zs.length * 0 ≤ _
      omega
    · refine Tr.pure ⟨_, rfl, ?_, ?_⟩
      · rw [cs_join0, l1]
        exact hlen
      · intro c hc
        rw [cs_join0] at hc
        exact l2 c hc
theorem cs_str (c : Nat) : cs ⟨#[c]⟩ = [c] := rfl
theorem names_ok (n : Nat) : Tr (St n) (m__law_words [.loc n, .int 2]) (fun d => ∃ zs : List Str, d = .lst (zs.map .str) ∧ zs.length = 2 ∧ ∀ z ∈ zs, isW z) := by
  unfold m__law_words b__law_words
  simp only [mFn_run, ent, runS_assoc, runS_set, runS_asg, runS_ret, List.map, List.length, List.replicate, List.append, List.nil_append, List.cons_append]
  show Tr (St n) ((pure (.str abc) : M D) >>= _) _
  rw [bind_pure']
  simp only [List.set]
  -- first, step
  refine Tr.bind (P := fun d => ∃ i j : Int, d = .tup [.int i, .int j]) ?_ fun d hd => ?_
  · unfold eTup eCall
    simp only [aCons, aNil, eK, eVar, eFrz, nLst, bind_assoc', bind_pure', List.getElem?_cons_zero, List.append_nil]
    refine Tr.bind (Tr.guard (P := fun _ => True) (by rfl) trivial) fun _ _ => ?_
    refine Tr.bind (draw_ok n 26 (by decide) (by decide)) fun d hd => ?_
    obtain ⟨i, rfl, _⟩ := hd
    refine Tr.bind (Tr.guard (P := fun _ => True) (by rfl) trivial) fun _ _ => ?_
    simp only [O.dat, bind_pure']
    refine Tr.bind (Tr.guard (P := fun _ => True) (by rfl) trivial) fun _ _ => ?_
    refine Tr.bind (choose_ok n _ (by simp) (by simp)) fun d hd => ?_
    have hj : ∃ j : Int, d = .int j := by
      simp only [List.mem_cons, List.not_mem_nil, or_false] at hd
      rcases hd with rfl | rfl | rfl | rfl | rfl | rfl | rfl | rfl | rfl | rfl | rfl | rfl <;> exact ⟨_, rfl⟩
    obtain ⟨j, rfl⟩ := hj
    refine Tr.bind (Tr.guard (P := fun _ => True) (by rfl) trivial) fun _ _ => ?_
    exact Tr.pure ⟨i, j, rfl⟩
  obtain ⟨i, j, rfl⟩ := hd
  show Tr (St n) (optE (some _) _) _
  simp only [optE, List.set]
  refine Tr.bind (part_ok (by rfl) ⟨rfl, rfl⟩) fun d hd => ?_
  obtain ⟨hd1, rfl, a1, a2⟩ := hd
  try simp only [List.set]
  refine Tr.bind (part_ok (by rfl) ⟨rfl, rfl⟩) fun d hd => ?_
  obtain ⟨tl1, rfl, b1, b2⟩ := hd
  try simp only [List.set]
  unfold eFrz nLc
  simp only [iRg1, eVar, bind_assoc', bind_pure', List.getElem?_cons_zero, List.getElem?_cons_succ, intOf, opt_some]
  refine Tr.bind (Tr.guard (P := fun _ => True) (by rfl) trivial) fun _ _ => ?_
  refine Tr.bind (Tr.noX (Tr.lc (P := fun d => ∃ z : Str, d = .str z ∧ isW z) _ [] (fun d hd => ⟨_, rfl, ?_⟩) (by rw [rangeD]; simp))) fun r hr => ?_
  · unfold rangeD at hd
    obtain ⟨k, hk, rfl⟩ := List.mem_map.mp hd
    have hk3 : k < 2 := by simpa using hk
    simp only [wipeE, List.set]
    unfold eBin
    simp only [eVar, eIx, eBin, eB, on1, aCons, aNil, eK, bind_assoc', bind_pure', List.getElem?_cons_zero, List.getElem?_cons_succ, oMul_int, oAdd_int, oInt_int, oMod_int, guard_true (mulOk_r (i := j) (j := 0 + (k : Int)) (by omega) (by omega)), guard_true (show decide ((0 : Int) < 26) = true by decide)]
    obtain ⟨x, hx, hm⟩ := atI_lt (l := cs abc) (i := (i + j * (0 + (k : Int))) % 26) (Int.emod_nonneg _ (by decide)) (by rw [abc_len]; exact Int.emod_lt_of_pos _ (by decide))
    have hxr := abc_mem hm
    have ox : oIx (.str abc) (.int ((i + j * (0 + (k : Int))) % 26)) = pure (.str ⟨#[x]⟩) := by
      show (guardM (szOk abc.length) >>= fun _ => optM (atI (cs abc) ((i + j * (0 + (k : Int))) % 26)) >>= fun c => pure (D.str ⟨#[c]⟩)) = _
      rw [hx]
      rfl
    rw [ox]
    have l1 : hd1.length ≤ 3 := by rw [len_cs]; exact a1
    have l2 : tl1.length ≤ 3 := by rw [len_cs]; exact b1
    have o1 : oAdd (.str hd1) (.str ⟨#[x]⟩) = pure (.str (hd1 ++ ⟨#[x]⟩)) := by
      show (guardM (szOk (hd1.length + 1)) >>= fun _ => (pure (D.str (hd1 ++ ⟨#[x]⟩)) : M D)) = _
      rw [guard_true (show szOk (hd1.length + 1) = true from decide_eq_true (by omega))]
    have l3 : (hd1 ++ ⟨#[x]⟩ : Str).length = hd1.length + 1 := by rw [len_cs, cs_app, len_cs]; simp
    have o2 : oAdd (.str (hd1 ++ ⟨#[x]⟩)) (.str tl1) = pure (.str (hd1 ++ ⟨#[x]⟩ ++ tl1)) := by
      show (guardM (szOk ((hd1 ++ ⟨#[x]⟩ : Str).length + tl1.length)) >>= fun _ => (pure (D.str (hd1 ++ ⟨#[x]⟩ ++ tl1)) : M D)) = _
      rw [guard_true (show szOk ((hd1 ++ ⟨#[x]⟩ : Str).length + tl1.length) = true from decide_eq_true (by omega))]
    simp only [bind_pure', o1, o2]
    refine Tr.pure ⟨_, rfl, ?_, ?_, ?_⟩
    · rw [cs_app, cs_app, cs_str, List.length_append, List.length_append, List.length_singleton]
      omega
    · rw [cs_app, cs_app, cs_str, List.length_append, List.length_append, List.length_singleton]
      omega
    · intro c hc
      rw [cs_app, cs_app, cs_str] at hc
      rcases List.mem_append.mp hc with hc | hc
      · rcases List.mem_append.mp hc with hc | hc
        · exact a2 c hc
        · have : c = x := by simpa using hc
          omega
      · exact b2 c hc
  · obtain ⟨r1, r2⟩ := hr
    obtain ⟨zs, rfl, hz⟩ := strs_of (P := isW) (r := r) fun x hx => by
      rcases r2 x hx with q | ⟨z, e, q⟩
      · cases q
      · exact ⟨z, e, q⟩
    simp only [bind_pure', O.dat]
    refine Tr.pure ⟨zs, rfl, ?_, hz⟩
    have : (zs.map D.str).length = ([] : List D).length + (rangeD 0 2).length := r1
    rw [rangeD] at this
    simpa using this
end Lw
set_option Elab.async false
set_option linter.all false
set_option maxRecDepth 100000
set_option maxHeartbeats 4000000
namespace Lw
open PySem L2 DL
/-! ### words -/
/-- plain data -/
def pl : D → Bool
  | .non | .bl _ | .int _ | .str _ | .tup _ | .lst _ | .dct _ => true
  | _ => false
def okD (d : D) : Prop := pl d = true ∧ ∀ z, d = .str z → okS z
def inB (c : Nat) : Bool := decide (c ∈ cs abc)
def lenB (z : Str) : Bool := decide ((1 : Int) ≤ z.length) && decide ((z.length : Int) ≤ 8)
def wordB (z : Str) : Bool := lenB z && (cs z).all inB
def wordD : D → Bool
  | .str z => wordB z
  | _ => false
def isStr : D → Bool
  | .str _ => true
  | _ => false
theorem isT_str {d : D} (h : pl d = true) : oIsT noSub .str d = pure (.bl (isStr d)) := by
  cases d <;> first | (cases h; done) | rfl
def isTup : D → Bool
  | .tup _ => true
  | _ => false
theorem isT_tup {d : D} (h : pl d = true) : oIsT noSub .tup d = pure (.bl (isTup d)) := by
  cases d <;> first | (cases h; done) | rfl
theorem eIsT_p {b : Ty0} {m : LE → M D} {env : LE} {d : D} {r : Bool} (h : m env = pure d) (k : oIsT noSub b d = pure (.bl r)) : eIsT noSub b m env = pure (.bl r) := by
  unfold eIsT
  rw [h, bind_pure', k]
theorem eVar_p {i : Nat} {env : LE} {d : D} (h : env[i]? = some (some (.val d))) : eVar i env = pure d := by unfold eVar; rw [h]
theorem sign_p {env : LE} {c : Nat} {k : D} {z : Str} (h : env[1]? = some (some (.val (.str ⟨#[c]⟩)))) (e : k = .str z) : eBin oIn (eVar 1) (eK k) env = pure (.bl (decide (c ∈ cs z))) := by subst e; exact eBin_p (eVar_p h) rfl rfl
theorem len_str {z : Str} (h : okS z) : oLen (.str z) = pure (.int z.length) := by
  show (guardM (szOk z.length) >>= fun _ => (pure (D.int z.length) : M D)) = _
  rw [guard_true (show szOk z.length = true from decide_eq_true (by rw [len_toList]; have := h.1; omega))]
theorem is_word_ok {d : D} (h : okD d) : m_is_word [d] = pure (.bl (wordD d)) := by
  unfold m_is_word b_is_word
  rw [mFn_run]
  have h0 : (ent 2 [d])[0]? = some (some (.val d)) := rfl
  have hl : (ent 2 [d]).length = 2 := rfl
  generalize ent 2 [d] = env at h0 hl
  have v0 := eVar_p h0
  have t1 := tNot_p (tOf_p (eIsT_p v0 (isT_str h.1)))
  by_cases q : isStr d = true
  · cases d <;> first | (cases q; done) | skip
    rename_i z
    have hz := h.2 z rfl
    have t2 : tNotM (tOf (eChain oLe oLe (eK (.int 1)) (eB (on1 oLen) (aCons (eVar 0) aNil)) (eK c_MOST_LETTERS))) env = pure (!lenB z) := tNot_p (tOf_p (chain_int (i := 1) (k := 8) (ma := eK (.int 1)) (mc := eK c_MOST_LETTERS) rfl (eB1_p (f := oLen) v0 (len_str hz)) rfl))
    rw [runS_ret_if (tOr_p t1 t2), runS_ret]
    have e1 : eFrz (nLc (DL.iItems (eVar 0)) (gN 1) tTrue (eBin oIn (eVar 1) (eK c_LETTERS)) [1]) env = pure (.lst (((cs z).map inB).map .bl)) := by
      have it : DL.iItems (eVar 0) env = pure ((cs z).map fun c => D.str ⟨#[c]⟩) := by unfold DL.iItems; rw [v0]; rfl
      have r1 := nLc_map (g := gN 1) (e := eBin oIn (eVar 1) (eK c_LETTERS)) (own := [1]) (fun c : Nat => D.str ⟨#[c]⟩) (fun c => .bl (inB c)) (cs z) it (fun c _ => ⟨(env.set 1 none).set 1 (some (.val (.str ⟨#[c]⟩))), rfl, sign_p (z := abc) (List.getElem?_set_self (by rw [List.length_set, hl]; decide)) rfl⟩) (Nat.le_trans hz.1 (by decide))
      unfold eFrz
      rw [r1, bind_pure', List.map_map]
      rfl
    rw [eB1_p (f := oAll) e1 (all_bls _)]
    rw [show wordD (.str z) = (lenB z && (cs z).all inB) from rfl]
    cases lenB z with
    | true =>
      rw [List.all_map]
      rfl
    | false => rfl
  · have e : isStr d = false := by cases e : isStr d with
      | true => exact absurd e q
      | false => rfl
    rw [e] at t1
    rw [runS_ret_if (a := true) (tOr_pt t1), if_pos rfl]
    cases d <;> first | rfl | (cases e; done)
theorem asc_sing {c : Nat} (h : c < 128) : okS ⟨#[c]⟩ := by
  refine ⟨by show [c].length ≤ 64; simp, fun x hx => ?_⟩
  have : x = c := by simpa using hx
  omega
end Lw
set_option Elab.async false
set_option linter.all false
set_option maxRecDepth 100000
set_option maxHeartbeats 4000000
namespace Lw
open PySem L2 DL
/-! ### sets of servers -/
def strsD : List D → List Str
  | [] => []
  | .str z :: r => z :: strsD r
  | _ :: r => strsD r
theorem strsD_map : ∀ zs : List Str, strsD (zs.map .str) = zs
  | [] => rfl
  | z :: r => by show z :: strsD (r.map .str) = _; rw [strsD_map r]
theorem words_of : ∀ {ds : List D}, ds.all wordD = true → ∃ zs : List Str, ds = zs.map .str ∧ ∀ z ∈ zs, wordB z = true
  | [], _ => ⟨[], rfl, by simp⟩
  | d :: r, h => by
    rw [List.all_cons, Bool.and_eq_true] at h
    obtain ⟨zs, rfl, k⟩ := words_of h.2
    cases d <;> first | (cases h.1; done) | skip
    rename_i z
    exact ⟨z :: zs, rfl, fun y hy => by
      rcases List.mem_cons.mp hy with rfl | hy
      · exact h.1
      · exact k y hy⟩
def len5 (ds : List D) : Bool := decide ((1 : Int) ≤ ds.length) && decide ((ds.length : Int) ≤ 5)
def setD : D → Bool
  | .tup ds => len5 ds && (ds.all wordD && ascB (strsD ds))
  | _ => false
structure okT (d : D) : Prop where
  pl : pl d = true
  el : ∀ ds, d = .tup ds → ds.length ≤ 1000 ∧ ∀ x ∈ ds, okD x ∧ x.nice = true
theorem wordB_okS {z : Str} (h : wordB z = true) : okS z := by
  unfold wordB lenB at h
  simp only [Bool.and_eq_true, decide_eq_true_eq] at h
  obtain ⟨⟨h1, h2⟩, h3⟩ := h
  rw [len_toList] at h1 h2
  refine ⟨by omega, fun c hc => ?_⟩
  have := abc_mem (of_decide_eq_true (List.all_eq_true.mp h3 c hc))
  omega
theorem ix_tup {env : LE} {i : Nat} {ds : List D} {k : Nat} {x : D} {mi : LE → M D} (h : env[i]? = some (some (.val (.tup ds)))) (hm : mi env = pure (.int k)) (hx : ds[k]? = some x) : eIx (eVar i) mi env = pure x := by
  unfold eIx
  refine eBin_p (eVar_p h) hm ?_
  show (optM (atI ds k) : M D) = _
  rw [DL.atI_nat hx]
  rfl
theorem is_servers_ok {d : D} (h : okT d) : m_is_servers [d] = pure (.bl (setD d)) := by
  unfold m_is_servers b_is_servers
  rw [mFn_run]
  have h0 : (ent 3 [d])[0]? = some (some (.val d)) := rfl
  have hl : (ent 3 [d]).length = 3 := rfl
  generalize ent 3 [d] = env at h0 hl
  have v0 := eVar_p h0
  have t1 := tNot_p (tOf_p (eIsT_p v0 (isT_tup h.pl)))
  by_cases q : isTup d = true
  · cases d <;> first | (cases q; done) | skip
    rename_i ds
    obtain ⟨hz, he⟩ := h.el ds rfl
    have t2 : tNotM (tOf (eChain oLe oLe (eK (.int 1)) (eB (on1 oLen) (aCons (eVar 0) aNil)) (eK c_MOST_SERVERS))) env = pure (!len5 ds) := tNot_p (tOf_p (chain_int (i := 1) (k := 5) (ma := eK (.int 1)) (mc := eK c_MOST_SERVERS) rfl (eB1_p (f := oLen) v0 rfl) rfl))
    rw [runS_ret_if (tOr_p t1 t2)]
    rw [show setD (.tup ds) = (len5 ds && (ds.all wordD && ascB (strsD ds))) from rfl]
    cases len5 ds with
    | false => rfl
    | true =>
      rw [show (!isTup (.tup ds) || !true) = false from rfl, if_neg (by decide), Bool.true_and]
      have e1 : eFrz (nLc (DL.iItems (eVar 0)) (gN 1) tTrue (eCall 1 m_is_word [] (aCons (eVar 1) aNil)) [1]) env = pure (.lst ((ds.map wordD).map .bl)) := by
        have r1 := nLc_map (g := gN 1) (e := eCall 1 m_is_word [] (aCons (eVar 1) aNil)) (own := [1]) (mi := DL.iItems (eVar 0)) (fun x : D => x) (fun x => .bl (wordD x)) ds (by unfold DL.iItems; rw [v0, List.map_id']; rfl) (fun x hx => ⟨(env.set 1 none).set 1 (some (.val x)), rfl, eCall1_p (eVar_p (List.getElem?_set_self (by rw [List.length_set, hl]; decide))) (is_word_ok (he x hx).1)⟩) (by omega)
        unfold eFrz
        rw [r1, bind_pure', List.map_map]
        rfl
      rw [runS_ret_if (tNot_p (tOf_p (eB1_p (f := oAll) e1 (all_bls _))))]
      rw [List.all_map, show (id ∘ wordD) = wordD from rfl]
      cases e : ds.all wordD with
      | false => rfl
      | true =>
        rw [show (!true) = false from rfl, if_neg (by decide), Bool.true_and, runS_ret]
        obtain ⟨zs, rfl, hw⟩ := words_of e
        rw [strsD_map]
        have it : iRg1 (eBin oSub (eB (on1 oLen) (aCons (eVar 0) aNil)) (eK (.int 1))) env = pure ((List.range (zs.length - 1)).map fun k => D.int (k : Nat)) := by
          unfold iRg1
          rw [eBin_p (x := .int (zs.map D.str).length) (eB1_p (f := oLen) v0 rfl) rfl oSub_int, bind_pure']
          rw [List.length_map] at hz ⊢
          show (guardM (rgOk ((zs.length : Int) - 1)) >>= fun _ => (pure (rangeD 0 ((zs.length : Int) - 1)) : M (List D))) = _
          rw [guard_true (by unfold rgOk; rw [decide_eq_true (by omega), decide_eq_true (by omega)] <;> rfl)]
          unfold rangeD
          rw [show ((zs.length : Int) - 1 - 0).toNat = zs.length - 1 by omega]
          congr 1
          exact List.map_congr_left fun k _ => by rw [Int.zero_add]
        have r2 := nLc_map (g := gN 2) (e := eBin oLt (eIx (eVar 0) (eVar 2)) (eIx (eVar 0) (eBin oAdd (eVar 2) (eK (.int 1))))) (own := [2]) (fun k : Nat => D.int k) (fun k => .bl (ltAt zs k)) (List.range (zs.length - 1)) it (fun k hk => ?_) (by rw [List.length_range]; rw [List.length_map] at hz; omega)
        · rw [eB1_p (f := oAll) (x := .lst (((List.range (zs.length - 1)).map (ltAt zs)).map .bl)) (by unfold eFrz; rw [r2, bind_pure', List.map_map]; rfl) (all_bls _), List.all_map]
          rw [show (id ∘ ltAt zs) = ltAt zs from rfl, asc_range]
        · have hk' : k < zs.length - 1 := List.mem_range.mp hk
          refine ⟨(env.set 2 none).set 2 (some (.val (.int k))), rfl, ?_⟩
          have g0 : ((env.set 2 none).set 2 (some (.val (.int k))))[0]? = some (some (.val (.tup (zs.map .str)))) := by rw [List.getElem?_set_ne (by decide), List.getElem?_set_ne (by decide)]; exact h0
          have g2 : ((env.set 2 none).set 2 (some (.val (.int k))))[2]? = some (some (.val (.int k))) := List.getElem?_set_self (by rw [List.length_set, hl]; decide)
          have k1 : zs[k]? = some zs[k] := List.getElem?_eq_getElem (by omega)
          have k2 : zs[k + 1]? = some zs[k + 1] := List.getElem?_eq_getElem (by omega)
          refine eBin_p (x := .str zs[k]) (y := .str zs[k + 1]) (ix_tup g0 (eVar_p g2) (by rw [List.getElem?_map, k1]; rfl)) (ix_tup (k := k + 1) g0 (eBin_p (eVar_p g2) rfl oAdd_int) (by rw [List.getElem?_map, k2]; rfl)) ?_
          unfold ltAt
          rw [k1, k2]
          rfl
  · have e : isTup d = false := by cases e : isTup d with
      | true => exact absurd e q
      | false => rfl
    rw [e] at t1
    rw [runS_ret_if (a := true) (tOr_pt t1), if_pos rfl]
    cases d <;> first | rfl | (cases e; done)
end Lw
set_option Elab.async false
set_option linter.all false
set_option maxRecDepth 100000
set_option maxHeartbeats 4000000
namespace Lw
open PySem L2 DL
theorem eqs_str {a b : Str} : oEqS (.str a) (.str b) = pure (.bl (decide (a = b))) := by
  show (eqM (.str a) (.str b) >>= fun b => (pure (D.bl b) : M D)) = _
  rfl
theorem eqs_int {a b : Int} : oEqS (.int a) (.int b) = pure (.bl (decide (a = b))) := by
  show (eqM (.int a) (.int b) >>= fun b => (pure (D.bl b) : M D)) = _
  rfl
/-! ### times, values -/
def timeD : D → Bool
  | .int i => decide ((1 : Int) ≤ i) && decide (i ≤ 1000000000)
  | _ => false
def isI : D → Bool
  | .int _ => true
  | _ => false
theorem is_integer_ok {d : D} (h : pl d = true) : m_is_integer [d] = pure (.bl (isI d)) := by
  cases d <;> first | (cases h; done) | rfl
theorem is_between_ok {d : D} (h : pl d = true) : m_is_between [d, .int 1, .int 1000000000] = pure (.bl (timeD d)) := by
  unfold m_is_between b_is_between
  rw [mFn_run, runS_ret]
  have v0 : eVar 0 (ent 3 [d, .int 1, .int 1000000000]) = pure d := rfl
  have e1 := eCall1_p (m := m_is_integer) v0 (is_integer_ok h)
  by_cases q : isI d = true
  · cases d <;> first | (cases q; done) | skip
    rename_i i
    exact eAnd_p (a := true) e1 (chain_int (i := 1) (j := i) (k := 1000000000) rfl rfl rfl)
  · have e : isI d = false := by cases e : isI d with
      | true => exact absurd e q
      | false => rfl
    rw [e] at e1
    rw [eAnd_pf e1]
    cases d <;> first | rfl | (cases e; done)
theorem is_time_ok {d : D} (h : pl d = true) : m_is_time [d] = pure (.bl (timeD d)) := by
  unfold m_is_time b_is_time
  rw [mFn_run, runS_ret]
  exact eCall3_p (x := d) (y := .int 1) (d := .int 1000000000) rfl rfl rfl (is_between_ok h)
def valueD (d : D) : Bool := d.isNon || wordD d
theorem isN_ok {d : D} (h : pl d = true) : oIsN d .non = pure (.bl d.isNon) := by
  cases d <;> first | (cases h; done) | rfl
theorem is_value_ok {d : D} (h : okD d) : m_is_value [d] = pure (.bl (valueD d)) := by
  unfold m_is_value b_is_value
  rw [mFn_run, runS_ret]
  exact eOr_p (eBin_p (x := d) (y := .non) rfl rfl (isN_ok h.1)) (eCall1_p (x := d) rfl (is_word_ok h))
/-! ### steps -/
def parB : List D → Bool
  | [a, t] => setD a && timeD t
  | _ => false
def tellB : List D → Bool
  | [n, a, t] => wordD n && (setD a && timeD t)
  | _ => false
def ansB : List D → Bool
  | [n, v, t] => wordD n && (valueD v && timeD t)
  | _ => false
def onB : List D → Bool
  | [n] => wordD n
  | _ => false
def goneB : List D → Bool
  | [v] => valueD v
  | _ => false
def inW (w a b : Str) : Bool := (a == w) || (b == w)
def stepL (w : Str) (r : List D) : Bool :=
  if w = "parent" then parB r else if w = "tells" then tellB r else if w = "answers" then ansB r else if inW w "on" "off" = true then onB r else inW w "gone" "good" && goneB r
def stepD : D → Bool
  | .tup (.str w :: r) => stepL w r
  | _ => false
/-- elements that may be told -/
structure okE (d : D) : Prop where
  t : okT d
  w : okD d
theorem in_tup (w a b : Str) : oIn (.str w) (.tup [.str a, .str b]) = pure (.bl (inW w a b)) := by
  show (pure (D.bl ((a == w) || ((b == w) || false))) : M D) = _
  rw [Bool.or_false]
  rfl
theorem in_lst (w a b : Str) : oIn (.str w) (.lst [.str a, .str b]) = pure (.bl (inW w a b)) := by
  show (pure (D.bl ((a == w) || ((b == w) || false))) : M D) = _
  rw [Bool.or_false]
  rfl
section
variable {env : LE} {x0 : D} {r : List D} (h0 : env[0]? = some (some (.val (.tup (x0 :: r)))))
include h0
theorem len_p (n : Int) : eBin oEqS (eB (on1 oLen) (aCons (eVar 0) aNil)) (eK (.int n)) env = pure (.bl (decide (((r.length + 1 : Nat) : Int) = n))) :=
  eBin_p (x := .int ((r.length + 1 : Nat) : Int)) (eB1_p (f := oLen) (eVar_p h0) rfl) rfl eqs_int
theorem at_p {k : Nat} {x : D} (h : r[k]? = some x) : eIx (eVar 0) (eK (.int ((k + 1 : Nat) : Int))) env = pure x := ix_tup h0 rfl h
theorem par_p {ms mt : List D → M D} (hs : ∀ x ∈ r, ms [x] = pure (.bl (setD x))) (ht : ∀ x ∈ r, mt [x] = pure (.bl (timeD x))) :
    eAnd (eBin oEqS (eB (on1 oLen) (aCons (eVar 0) aNil)) (eK (.int 3))) (eAnd (eCall 1 ms [] (aCons (eIx (eVar 0) (eK (.int 1))) aNil)) (eCall 1 mt [] (aCons (eIx (eVar 0) (eK (.int 2))) aNil))) env = pure (.bl (parB r)) := by
  have hl := len_p h0 3
  match r, h0, hs, ht, hl with
  | [a, t], h0, hs, ht, hl => exact eAnd_p (a := true) hl (eAnd_p (eCall1_p (at_p (k := 0) h0 rfl) (hs a (by simp))) (eCall1_p (at_p (k := 1) h0 rfl) (ht t (by simp))))
  | [], h0, hs, ht, hl => exact eAnd_pf hl
  | [_], h0, hs, ht, hl => exact eAnd_pf hl
  | _ :: _ :: _ :: q, h0, hs, ht, hl => exact eAnd_pf (hl.trans (by rw [decide_eq_false (by simp; omega)]))
theorem tell_p {mw ms mt : List D → M D} (hw : ∀ x ∈ r, mw [x] = pure (.bl (wordD x))) (hs : ∀ x ∈ r, ms [x] = pure (.bl (setD x))) (ht : ∀ x ∈ r, mt [x] = pure (.bl (timeD x))) :
    eAnd (eBin oEqS (eB (on1 oLen) (aCons (eVar 0) aNil)) (eK (.int 4))) (eAnd (eCall 1 mw [] (aCons (eIx (eVar 0) (eK (.int 1))) aNil)) (eAnd (eCall 1 ms [] (aCons (eIx (eVar 0) (eK (.int 2))) aNil)) (eCall 1 mt [] (aCons (eIx (eVar 0) (eK (.int 3))) aNil)))) env = pure (.bl (tellB r)) := by
  have hl := len_p h0 4
  match r, h0, hw, hs, ht, hl with
  | [n, a, t], h0, hw, hs, ht, hl => exact eAnd_p (a := true) hl (eAnd_p (eCall1_p (at_p (k := 0) h0 rfl) (hw n (by simp))) (eAnd_p (eCall1_p (at_p (k := 1) h0 rfl) (hs a (by simp))) (eCall1_p (at_p (k := 2) h0 rfl) (ht t (by simp)))))
  | [], h0, hw, hs, ht, hl => exact eAnd_pf hl
  | [_], h0, hw, hs, ht, hl => exact eAnd_pf hl
  | [_, _], h0, hw, hs, ht, hl => exact eAnd_pf hl
  | _ :: _ :: _ :: _ :: q, h0, hw, hs, ht, hl => exact eAnd_pf (hl.trans (by rw [decide_eq_false (by simp; omega)]))
theorem ans_p {mw mv mt : List D → M D} (hw : ∀ x ∈ r, mw [x] = pure (.bl (wordD x))) (hv : ∀ x ∈ r, mv [x] = pure (.bl (valueD x))) (ht : ∀ x ∈ r, mt [x] = pure (.bl (timeD x))) :
    eAnd (eBin oEqS (eB (on1 oLen) (aCons (eVar 0) aNil)) (eK (.int 4))) (eAnd (eCall 1 mw [] (aCons (eIx (eVar 0) (eK (.int 1))) aNil)) (eAnd (eCall 1 mv [] (aCons (eIx (eVar 0) (eK (.int 2))) aNil)) (eCall 1 mt [] (aCons (eIx (eVar 0) (eK (.int 3))) aNil)))) env = pure (.bl (ansB r)) := by
  have hl := len_p h0 4
  match r, h0, hw, hv, ht, hl with
  | [n, a, t], h0, hw, hv, ht, hl => exact eAnd_p (a := true) hl (eAnd_p (eCall1_p (at_p (k := 0) h0 rfl) (hw n (by simp))) (eAnd_p (eCall1_p (at_p (k := 1) h0 rfl) (hv a (by simp))) (eCall1_p (at_p (k := 2) h0 rfl) (ht t (by simp)))))
  | [], h0, hw, hv, ht, hl => exact eAnd_pf hl
  | [_], h0, hw, hv, ht, hl => exact eAnd_pf hl
  | [_, _], h0, hw, hv, ht, hl => exact eAnd_pf hl
  | _ :: _ :: _ :: _ :: q, h0, hw, hv, ht, hl => exact eAnd_pf (hl.trans (by rw [decide_eq_false (by simp; omega)]))
theorem on_p {mw : List D → M D} (hw : ∀ x ∈ r, mw [x] = pure (.bl (wordD x))) :
    eAnd (eBin oEqS (eB (on1 oLen) (aCons (eVar 0) aNil)) (eK (.int 2))) (eCall 1 mw [] (aCons (eIx (eVar 0) (eK (.int 1))) aNil)) env = pure (.bl (onB r)) := by
  have hl := len_p h0 2
  match r, h0, hw, hl with
  | [n], h0, hw, hl => exact eAnd_p (a := true) hl (eCall1_p (at_p (k := 0) h0 rfl) (hw n (by simp)))
  | [], h0, hw, hl => exact eAnd_pf hl
  | _ :: _ :: q, h0, hw, hl => exact eAnd_pf (hl.trans (by rw [decide_eq_false (by simp; omega)]))
theorem gone_p {me : LE → M D} (hv : ∀ x, r = [x] → me env = pure (.bl (valueD x))) :
    eAnd (eBin oEqS (eB (on1 oLen) (aCons (eVar 0) aNil)) (eK (.int 2))) me env = pure (.bl (goneB r)) := by
  have hl := len_p h0 2
  match r, h0, hv, hl with
  | [n], h0, hv, hl => exact eAnd_p (a := true) hl (hv n rfl)
  | [], h0, hv, hl => exact eAnd_pf hl
  | _ :: _ :: q, h0, hv, hl => exact eAnd_pf (hl.trans (by rw [decide_eq_false (by simp; omega)]))
end
theorem stepL_nil (w : Str) : stepL w [] = false := by
  unfold stepL
  simp only [parB, tellB, ansB, onB, goneB, Bool.and_false]
  split <;> first | rfl | (split <;> first | rfl | (split <;> first | rfl | (split <;> rfl)))
theorem is_step_tup {ds : List D} (h : ∀ x ∈ ds, okE x) : m_is_step [.tup ds] = pure (.bl (stepD (.tup ds))) := by
  unfold m_is_step b_is_step
  rw [mFn_run]
  match ds, h with
  | [], _ => rfl
  | x0 :: r, h =>
    have hx := (h x0 (by simp)).w
    have hr : ∀ x ∈ r, okE x := fun x hx => h x (List.mem_cons_of_mem _ hx)
    have h0 : (ent 2 [D.tup (x0 :: r)])[0]? = some (some (.val (.tup (x0 :: r)))) := rfl
    have hl : (ent 2 [D.tup (x0 :: r)]).length = 2 := rfl
    generalize ent 2 [D.tup (x0 :: r)] = env at h0 hl
    have t1 : tNotM (tOf (eIsT noSub .tup (eVar 0))) env = pure false := tNot_p (a := true) (tOf_p (eIsT_p (eVar_p h0) rfl))
    have t2 : tOf (eBin oLt (eB (on1 oLen) (aCons (eVar 0) aNil)) (eK (.int 2))) env = pure (decide (((r.length + 1 : Nat) : Int) < 2)) := tOf_p (eBin_p (eB1_p (f := oLen) (eVar_p h0) rfl) rfl oLt_int)
    have t3 := tNot_p (tOf_p (eIsT_p (ix_tup (k := 0) (mi := eK (.int 0)) h0 rfl rfl) (isT_str hx.1)))
    rw [runS_ret_if (tOr_p t1 (tOr_p t2 t3)), Bool.false_or]
    by_cases q0 : r = []
    · subst q0
      rw [if_pos (by rw [decide_eq_true (by simp)]; rfl)]
      cases x0 <;> first | rfl | skip
      rename_i w
      show _ = pure (D.bl (stepL w []))
      rw [stepL_nil]
      rfl
    · have l2 : ¬ ((r.length + 1 : Nat) : Int) < 2 := by
        have : r.length ≠ 0 := fun z => q0 (List.eq_nil_of_length_eq_zero z)
        omega
      rw [decide_eq_false l2, Bool.false_or]
      by_cases q1 : isStr x0 = true
      · cases x0 <;> first | (cases q1; done) | skip
        rename_i w
        rw [if_neg (by rw [show isStr (.str w) = true from rfl]; decide), runS_set, ix_tup (k := 0) (mi := eK (.int 0)) h0 rfl rfl, bind_pure']
        have g0 : (env.set 1 (some (.val (.str w))))[0]? = some (some (.val (.tup (.str w :: r)))) := by rw [List.getElem?_set_ne (by decide)]; exact h0
        have g1 : (env.set 1 (some (.val (.str w))))[1]? = some (some (.val (.str w))) := List.getElem?_set_self (by rw [hl]; decide)
        generalize env.set 1 (some (.val (.str w))) = env1 at g0 g1
        have ws : ∀ x ∈ r, m_is_word [x] = pure (.bl (wordD x)) := fun x hx => is_word_ok (hr x hx).w
        have ss : ∀ x ∈ r, m_is_servers [x] = pure (.bl (setD x)) := fun x hx => is_servers_ok (hr x hx).t
        have ts : ∀ x ∈ r, m_is_time [x] = pure (.bl (timeD x)) := fun x hx => is_time_ok (hr x hx).w.1
        have vs : ∀ x ∈ r, m_is_value [x] = pure (.bl (valueD x)) := fun x hx => is_value_ok (hr x hx).w
        have eqw : ∀ z : Str, tOf (eBin oEqS (eVar 1) (eK (.str z))) env1 = pure (decide (w = z)) := fun z => tOf_p (eBin_p (eVar_p g1) rfl eqs_str)
        show _ = pure (D.bl (stepL w r))
        unfold stepL
        rw [runS_ret_if (eqw "parent")]
        by_cases a1 : w = "parent"
        · rw [decide_eq_true a1, if_pos rfl, if_pos a1]
          exact par_p g0 ss ts
        rw [decide_eq_false a1, if_neg (by decide), if_neg a1, runS_ret_if (eqw "tells")]
        by_cases a2 : w = "tells"
        · rw [decide_eq_true a2, if_pos rfl, if_pos a2]
          exact tell_p g0 ws ss ts
        rw [decide_eq_false a2, if_neg (by decide), if_neg a2, runS_ret_if (eqw "answers")]
        by_cases a3 : w = "answers"
        · rw [decide_eq_true a3, if_pos rfl, if_pos a3]
          exact ans_p g0 ws vs ts
        rw [decide_eq_false a3, if_neg (by decide), if_neg a3]
        have i1 : tOf (eBin oIn (eVar 1) (eTup (aCons (eK (.str "on")) (aCons (eK (.str "off")) aNil)))) env1 = pure (inW w "on" "off") := tOf_p (eBin_p (eVar_p g1) rfl (in_tup w _ _))
        rw [runS_ret_if i1]
        by_cases a4 : inW w "on" "off" = true
        · rw [if_pos a4, if_pos a4]
          exact on_p g0 ws
        rw [if_neg a4, if_neg a4, runS_ret]
        exact eAnd_p (eBin_p (eVar_p g1) rfl (in_tup w _ _)) (gone_p g0 fun x e => by subst e; exact eCall1_p (at_p (k := 0) g0 rfl) (vs x (by simp)))
      · have e : isStr x0 = false := by cases e : isStr x0 with
          | true => exact absurd e q1
          | false => rfl
        rw [e, if_pos (by decide)]
        cases x0 <;> first | rfl | (cases e; done)
theorem is_step_ok {d : D} (h : pl d = true) (k : ∀ ds, d = .tup ds → ∀ x ∈ ds, okE x) : m_is_step [d] = pure (.bl (stepD d)) := by
  by_cases q : isTup d = true
  · cases d <;> first | (cases q; done) | skip
    exact is_step_tup (k _ rfl)
  · cases d <;> first | (cases h; done) | (exact absurd rfl q) | rfl
end Lw
set_option Elab.async false
set_option linter.all false
set_option maxRecDepth 100000
set_option maxHeartbeats 4000000
namespace Lw
open PySem L2 DL
/-! ### the steps that are -/
inductive Stp where
  | par (zs : List Str) (t : Int)
  | tell (n : Str) (zs : List Str) (t : Int)
  | ans (n : Str) (v : Option Str) (t : Int)
  | onf (b : Bool) (n : Str)
  | gn (b : Bool) (v : Option Str)
def optS : Option Str → D
  | none => .non
  | some z => .str z
def onS (b : Bool) : Str := if b = true then "on" else "off"
def gnS (b : Bool) : Str := if b = true then "gone" else "good"
def Stp.d : Stp → D
  | .par zs t => .tup [.str "parent", .tup (zs.map .str), .int t]
  | .tell n zs t => .tup [.str "tells", .str n, .tup (zs.map .str), .int t]
  | .ans n v t => .tup [.str "answers", .str n, optS v, .int t]
  | .onf b n => .tup [.str (onS b), .str n]
  | .gn b v => .tup [.str (gnS b), optS v]
structure SetOk (zs : List Str) : Prop where
  w : ∀ z ∈ zs, wordB z = true
  a : ascB zs = true
  l : zs.length ≤ 5
def Stp.ok : Stp → Prop
  | .par zs _ => SetOk zs
  | .tell n zs _ => wordB n = true ∧ SetOk zs
  | .ans n _ _ => wordB n = true
  | .onf _ n => wordB n = true
  | .gn _ _ => True
theorem word_inv {d : D} (h : wordD d = true) : ∃ z, d = .str z ∧ wordB z = true := by
  cases d <;> first | (cases h; done) | exact ⟨_, rfl, h⟩
theorem set_inv {d : D} (h : setD d = true) : ∃ zs, d = .tup (zs.map .str) ∧ SetOk zs := by
  cases d <;> first | (cases h; done) | skip
  rename_i ds
  have h' : (len5 ds && (ds.all wordD && ascB (strsD ds))) = true := h
  simp only [Bool.and_eq_true] at h'
  obtain ⟨h1, h2, h3⟩ := h'
  obtain ⟨zs, rfl, hw⟩ := words_of h2
  rw [strsD_map] at h3
  unfold len5 at h1
  simp only [Bool.and_eq_true, decide_eq_true_eq, List.length_map] at h1
  exact ⟨zs, rfl, hw, h3, by omega⟩
theorem time_inv {d : D} (h : timeD d = true) : ∃ t, d = .int t := by
  cases d <;> first | (cases h; done) | exact ⟨_, rfl⟩
theorem value_inv {d : D} (h : valueD d = true) : ∃ v, d = optS v := by
  cases d <;> first | (cases h; done) | exact ⟨none, rfl⟩ | exact ⟨some _, rfl⟩
theorem inW_inv {w a b : Str} (h : inW w a b = true) : w = a ∨ w = b := by
  unfold inW at h
  simp only [Bool.or_eq_true, beq_iff_eq] at h
  exact h.imp Eq.symm Eq.symm
theorem step_inv {d : D} (h : stepD d = true) : ∃ st : Stp, d = st.d ∧ st.ok := by
  cases d <;> first | (cases h; done) | skip
  rename_i ds
  match ds, h with
  | .str w :: r, h =>
    have h : stepL w r = true := h
    unfold stepL at h
    split at h
    · rename_i e
      subst e
      match r, h with
      | [a, t], h =>
        have h : (setD a && timeD t) = true := h
        rw [Bool.and_eq_true] at h
        obtain ⟨zs, rfl, hz⟩ := set_inv h.1
        obtain ⟨t, rfl⟩ := time_inv h.2
        exact ⟨.par zs t, rfl, hz⟩
    split at h
    · rename_i e
      subst e
      match r, h with
      | [n, a, t], h =>
        have h : (wordD n && (setD a && timeD t)) = true := h
        simp only [Bool.and_eq_true] at h
        obtain ⟨z, rfl, hn⟩ := word_inv h.1
        obtain ⟨zs, rfl, hz⟩ := set_inv h.2.1
        obtain ⟨t, rfl⟩ := time_inv h.2.2
        exact ⟨.tell z zs t, rfl, hn, hz⟩
    split at h
    · rename_i e
      subst e
      match r, h with
      | [n, v, t], h =>
        have h : (wordD n && (valueD v && timeD t)) = true := h
        simp only [Bool.and_eq_true] at h
        obtain ⟨z, rfl, hn⟩ := word_inv h.1
        obtain ⟨v, rfl⟩ := value_inv h.2.1
        obtain ⟨t, rfl⟩ := time_inv h.2.2
        exact ⟨.ans z v t, rfl, hn⟩
    split at h
    · rename_i e
      match r, h with
      | [n], h =>
        obtain ⟨z, rfl, hn⟩ := word_inv h
        rcases inW_inv e with rfl | rfl
        · exact ⟨.onf true z, rfl, hn⟩
        · exact ⟨.onf false z, rfl, hn⟩
    · rw [Bool.and_eq_true] at h
      match r, h with
      | [v], h =>
        obtain ⟨v, rfl⟩ := value_inv h.2
        rcases inW_inv h.1 with rfl | rfl
        · exact ⟨.gn true v, rfl, trivial⟩
        · exact ⟨.gn false v, rfl, trivial⟩
/-! ### servers -/
def Stp.src : Stp → List Str
  | .par zs _ => zs
  | .tell n zs _ => n :: zs
  | .ans n _ _ => [n]
  | .onf _ n => [n]
  | .gn _ _ => []
def Stp.names (st : Stp) : List Str := srtS (allS [] st.src)
theorem set_same {zs : List Str} (h : SetOk zs) : srtS (allS [] zs) = zs := (of_decide_eq_true ((asc_iff zs).trans h.a)).symm
theorem ts_all {env : LE} (h : 2 < env.length) : ∀ (ys acc : List Str), acc.length + ys.length < 4000 → tsM (gN 2) tTrue (eB (on1 oStr) (aCons (eVar 2) aNil)) env (ys.map .str) acc = pure (allS acc ys)
  | [], acc, _ => rfl
  | y :: ys, acc, hl => by
    rw [List.length_cons] at hl
    have g2 : (env.set 2 (some (.val (.str y))))[2]? = some (some (.val (.str y))) := List.getElem?_set_self h
    have e1 : eB (on1 oStr) (aCons (eVar 2) aNil) (env.set 2 (some (.val (.str y)))) = pure (.str y) := eB1_p (f := oStr) (eVar_p g2) rfl
    show ((pure true : M Bool) >>= fun b => if b = true then eB (on1 oStr) (aCons (eVar 2) aNil) (env.set 2 (some (.val (.str y)))) >>= fun z => strM z >>= fun k => guardM (decide (acc.length < 4000)) >>= fun _ => tsM (gN 2) tTrue (eB (on1 oStr) (aCons (eVar 2) aNil)) env (ys.map .str) (addS acc k) else tsM (gN 2) tTrue (eB (on1 oStr) (aCons (eVar 2) aNil)) env (ys.map .str) acc) = _
    rw [bind_pure', if_t, e1, bind_pure']
    show (guardM (decide (acc.length < 4000)) >>= fun _ => tsM (gN 2) tTrue (eB (on1 oStr) (aCons (eVar 2) aNil)) env (ys.map .str) (addS acc y)) = _
    rw [guard_true (decide_eq_true (by omega))]
    exact ts_all h ys (addS acc y) (by have := addS_len acc y; omega)
theorem sortsc_p {env : LE} {ys : List Str} (h1 : env[1]? = some (some (.val (.lst (ys.map .str))))) (hl : env.length = 3) (hy : ys.length < 3000) :
    eFrz (nSortSc (DL.iItems (eVar 1)) (gN 2) tTrue (eB (on1 oStr) (aCons (eVar 2) aNil)) [2]) env = pure (.lst ((srtS (allS [] ys)).map .str)) := by
  have r := ts_all (env := env.set 2 none) (by rw [List.length_set, hl]; decide) ys [] (by simp; omega)
  have n := allS_len ys []
  rw [List.length_nil] at n
  unfold eFrz nSortSc
  rw [show DL.iItems (eVar 1) env = pure (ys.map .str) by unfold DL.iItems; rw [eVar_p h1]; rfl, bind_pure', show wipeE env [2] = env.set 2 none from rfl, r, noX_pure, bind_pure', guard_true (decide_eq_true (by omega)), bind_pure']
  rfl
theorem check_good {d : D} (h : m_is_step [d] = pure (.bl true)) : m_check_step [d] = pure .non := by
  unfold m_check_step b_check_step
  rw [mFn_run, runS_if, tNot_p (a := true) (tOf_p (eCall1_p (x := d) rfl h)), bind_pure']
  rfl
theorem check_bad {d : D} (h : m_is_step [d] = pure (.bl false)) : m_check_step [d] = mRaise (.own 1) [("step", d)] := by
  unfold m_check_step b_check_step
  rw [mFn_run, runS_if, tNot_p (a := false) (tOf_p (eCall1_p (x := d) rfl h)), bind_pure', if_pos (by decide), runS_raiseE]
  rfl
theorem servers_ok {st : Stp} (h : st.ok) (hs : m_is_step [st.d] = pure (.bl true)) : m_servers_of [st.d] = pure (.lst (st.names.map .str)) := by
  unfold m_servers_of b_servers_of
  rw [mFn_run, runS_expr, eCall1_p (x := st.d) rfl (check_good hs), bind_pure']
  cases st with
  | par zs t =>
    rw [runS_ret_if (a := true) (tOf_p (eBin_p (x := .str "parent") (y := .str "parent") rfl rfl rfl)), if_pos rfl]
    show _ = pure (D.lst ((srtS (allS [] zs)).map .str))
    rw [set_same h]
    rfl
  | gn b v =>
    cases b
    · rw [runS_ret_if (a := false) (tOf_p (eBin_p (x := .str "good") (y := .str "parent") rfl rfl (by kernel_rfl))), if_neg (by decide), runS_ret_if (a := true) (tOf_p (eBin_p (x := .str "good") rfl rfl (by kernel_rfl))), if_pos rfl]
      kernel_rfl
    · rw [runS_ret_if (a := false) (tOf_p (eBin_p (x := .str "gone") (y := .str "parent") rfl rfl (by kernel_rfl))), if_neg (by decide), runS_ret_if (a := true) (tOf_p (eBin_p (x := .str "gone") rfl rfl (by kernel_rfl))), if_pos rfl]
      kernel_rfl
  | tell n zs t =>
    rw [runS_ret_if (a := false) (tOf_p (eBin_p (x := .str "tells") (y := .str "parent") rfl rfl (by kernel_rfl))), if_neg (by decide), runS_ret_if (a := false) (tOf_p (eBin_p (x := .str "tells") rfl rfl (by kernel_rfl))), if_neg (by decide), runS_set]
    have l5 := h.2.l
    have e1 : eBin oAdd (eFrz (nLst (aCons (eIx (eVar 0) (eK (.int 1))) aNil))) (eIf (tOf (eBin oEqS (eIx (eVar 0) (eK (.int 0))) (eK (.str "tells")))) (eFrz (eB (on1 nList) (aCons (eIx (eVar 0) (eK (.int 2))) aNil))) (eFrz (nLst aNil))) (ent 3 [(Stp.tell n zs t).d]) = pure (.lst ((n :: zs).map .str)) := by
      refine eBin_p (x := .lst [.str n]) (y := .lst (zs.map .str)) rfl (eIf_p (a := true) (tOf_p (eBin_p (x := .str "tells") (y := .str "tells") rfl rfl (by kernel_rfl))) (fun _ => rfl) fun z => nomatch z) ?_
      show (guardM (szOk (1 + (zs.map D.str).length)) >>= fun _ => (pure (D.lst ([.str n] ++ zs.map .str)) : M D)) = _
      rw [guard_true (show szOk _ = true from decide_eq_true (by rw [List.length_map]; omega))]
      rfl
    rw [e1, bind_pure', runS_ret]
    exact sortsc_p rfl rfl (show zs.length + 1 < 3000 by omega)
  | ans n v t =>
    rw [runS_ret_if (a := false) (tOf_p (eBin_p (x := .str "answers") (y := .str "parent") rfl rfl (by kernel_rfl))), if_neg (by decide), runS_ret_if (a := false) (tOf_p (eBin_p (x := .str "answers") rfl rfl (by kernel_rfl))), if_neg (by decide), runS_set]
    have e1 : eBin oAdd (eFrz (nLst (aCons (eIx (eVar 0) (eK (.int 1))) aNil))) (eIf (tOf (eBin oEqS (eIx (eVar 0) (eK (.int 0))) (eK (.str "tells")))) (eFrz (eB (on1 nList) (aCons (eIx (eVar 0) (eK (.int 2))) aNil))) (eFrz (nLst aNil))) (ent 3 [(Stp.ans n v t).d]) = pure (.lst ([n].map .str)) :=
      eBin_p (x := .lst [.str n]) (y := .lst []) rfl (eIf_p (a := false) (tOf_p (eBin_p (x := .str "answers") (y := .str "tells") rfl rfl (by kernel_rfl))) (fun z => nomatch z) fun _ => rfl) rfl
    rw [e1, bind_pure', runS_ret]
    exact sortsc_p rfl rfl (show 1 < 3000 by decide)
  | onf b n =>
    have e0 : ∀ w : Str, (oEqS (.str w) (.str "parent") = pure (.bl false)) → oIn (.str w) (.tup [.str "gone", .str "good"]) = pure (.bl false) → oEqS (.str w) (.str "tells") = pure (.bl false) → runS (sSeq (sIf (tOf (eBin oEqS (eIx (eVar 0) (eK (.int 0))) (eK (.str "parent")))) (sRet (eFrz (eB (on1 nList) (aCons (eIx (eVar 0) (eK (.int 1))) aNil)))) sNext) (sSeq (sIf (tOf (eBin oIn (eIx (eVar 0) (eK (.int 0))) (eTup (aCons (eK (.str "gone")) (aCons (eK (.str "good")) aNil))))) (sRet (eFrz (nLst aNil))) sNext) (sSeq (sSet 1 (eBin oAdd (eFrz (nLst (aCons (eIx (eVar 0) (eK (.int 1))) aNil))) (eIf (tOf (eBin oEqS (eIx (eVar 0) (eK (.int 0))) (eK (.str "tells")))) (eFrz (eB (on1 nList) (aCons (eIx (eVar 0) (eK (.int 2))) aNil))) (eFrz (nLst aNil))))) (sRet (eFrz (nSortSc (DL.iItems (eVar 1)) (gN 2) tTrue (eB (on1 oStr) (aCons (eVar 2) aNil)) [2])))))) (ent 3 [.tup [.str w, .str n]]) = pure (.lst ((srtS (allS [] [n])).map .str)) := fun w h1 h2 h3 => by
      rw [runS_ret_if (a := false) (tOf_p (eBin_p (x := .str w) (y := .str "parent") rfl rfl h1)), if_neg (by decide), runS_ret_if (a := false) (tOf_p (eBin_p (x := .str w) rfl rfl h2)), if_neg (by decide), runS_set]
      have e1 : eBin oAdd (eFrz (nLst (aCons (eIx (eVar 0) (eK (.int 1))) aNil))) (eIf (tOf (eBin oEqS (eIx (eVar 0) (eK (.int 0))) (eK (.str "tells")))) (eFrz (eB (on1 nList) (aCons (eIx (eVar 0) (eK (.int 2))) aNil))) (eFrz (nLst aNil))) (ent 3 [.tup [.str w, .str n]]) = pure (.lst ([n].map .str)) :=
        eBin_p (x := .lst [.str n]) (y := .lst []) rfl (eIf_p (a := false) (tOf_p (eBin_p (x := .str w) (y := .str "tells") rfl rfl h3)) (fun z => nomatch z) fun _ => rfl) rfl
      rw [e1, bind_pure', runS_ret]
      exact sortsc_p rfl rfl (by simp)
    cases b
    · exact e0 "off" (by kernel_rfl) (by kernel_rfl) (by kernel_rfl)
    · exact e0 "on" (by kernel_rfl) (by kernel_rfl) (by kernel_rfl)
end Lw
set_option Elab.async false
set_option linter.all false
set_option maxRecDepth 100000
set_option maxHeartbeats 4000000
namespace Lw
open PySem L2 DL
theorem add_lst (xs ys : List D) (h : xs.length + ys.length ≤ 1000) : oAdd (.lst xs) (.lst ys) = pure (.lst (xs ++ ys)) := by
  show (guardM (szOk (xs.length + ys.length)) >>= fun _ => (pure (D.lst (xs ++ ys)) : M D)) = _
  rw [guard_true (show szOk _ = true from decide_eq_true (by omega))]
theorem src_okS {st : Stp} (h : st.ok) : ∀ z ∈ st.src, okS z := by
  intro z hz
  cases st with
  | par zs t => exact wordB_okS (SetOk.w h z hz)
  | tell n zs t =>
    rcases List.mem_cons.mp hz with rfl | hz
    · exact wordB_okS h.1
    · exact wordB_okS (h.2.w z hz)
  | ans n v t =>
    have e : z = n := by simpa [Stp.src] using hz
    subst e
    exact wordB_okS h
  | onf b n =>
    have e : z = n := by simpa [Stp.src] using hz
    subst e
    exact wordB_okS h
  | gn b v => cases hz
/-! ### a value, right -/
end Lw
set_option Elab.async false
set_option linter.all false
set_option maxRecDepth 100000
set_option maxHeartbeats 4000000
namespace Lw
open PySem L2 DL
/-! ### what is told of elements -/
def okSb (z : Str) : Bool := decide (z.cps.toList.length ≤ 64) && z.cps.toList.all fun c => decide (c < 128)
theorem okSb_ok {z : Str} (h : okSb z = true) : okS z := by
  unfold okSb at h
  rw [Bool.and_eq_true] at h
  exact ⟨of_decide_eq_true h.1, fun c hc => of_decide_eq_true (List.all_eq_true.mp h.2 c hc)⟩
def okDb (d : D) : Bool := pl d && (match d with | .str z => okSb z | _ => true)
theorem okDb_ok {d : D} (h : okDb d = true) : okD d := by
  unfold okDb at h
  rw [Bool.and_eq_true] at h
  exact ⟨h.1, fun z e => by subst e; exact okSb_ok h.2⟩
def okEb (d : D) : Bool := okDb d && (match d with | .tup ds => decide (ds.length ≤ 1000) && ds.all (fun x => okDb x && x.nice) | _ => true)
theorem okEb_ok {d : D} (h : okEb d = true) : okE d := by
  unfold okEb at h
  rw [Bool.and_eq_true] at h
  have w := okDb_ok h.1
  refine ⟨⟨w.1, fun ds e => ?_⟩, w⟩
  subst e
  have h2 := h.2
  rw [Bool.and_eq_true] at h2
  refine ⟨of_decide_eq_true h2.1, fun x hx => ?_⟩
  have := List.all_eq_true.mp h2.2 x hx
  rw [Bool.and_eq_true] at this
  exact ⟨okDb_ok this.1, this.2⟩
/-- for repr: told whatever it holds -/
def niceQ (p : PyData) : Bool := p.leavesShort 20 && (p.showable && (decide (p.depth ≤ 30) && decide (p.weight ≤ 200)))
def qn (d : D) : Bool := match d.pyq with
  | some p => niceQ p
  | none => false
/-- elements of a drawn step -/
structure El (d : D) : Prop where
  ok : okE d
  nice : d.nice = true
  q : qn d = true
theorem niceQ_of {p : PyData} (h : niceP p = true) : niceQ p = true := by
  unfold niceP at h
  unfold niceQ
  simp only [Bool.and_eq_true] at h ⊢
  exact ⟨h.1, h.2.1, h.2.2.1, h.2.2.2.1⟩
theorem El.leaf {d : D} (w : okE d) (n : d.nice = true) (e : d.pyq = d.py) : El d := ⟨w, n, by
  unfold qn
  rw [e]
  obtain ⟨p, h1, h2⟩ := nice_py n
  rw [h1]
  exact niceQ_of h2⟩
theorem isW_okS {z : Str} (h : isW z) : okS z := ⟨by have := h.2.1; show (cs z).length ≤ 64; omega, fun c hc => by have := h.2.2 c hc; omega⟩
theorem El.word {z : Str} (h : isW z) : El (.str z) :=
  El.leaf ⟨⟨rfl, fun ds e => by cases e⟩, rfl, fun y e => by cases e; exact isW_okS h⟩ (nice_strD (isW_okS h)) rfl
theorem El.int {i : Int} (h : i.natAbs < 10 ^ 12) : El (.int i) :=
  El.leaf ⟨⟨rfl, fun ds e => by cases e⟩, rfl, fun y e => by cases e⟩ (nice_intD h) rfl
theorem El.non : El .non := El.leaf ⟨⟨rfl, fun ds e => by cases e⟩, rfl, fun y e => by cases e⟩ rfl rfl
theorem pyqL_strs : ∀ zs : List Str, pyqL (zs.map .str) = some (zs.map .str)
  | [] => rfl
  | z :: r => by
    show (D.pyq (.str z)).bind (fun p => (pyqL (r.map .str)).map (p :: ·)) = _
    rw [pyqL_strs r]
    rfl
theorem El.set {zs : List Str} (h : ∀ z ∈ zs, isW z) (hl : zs.length ≤ 3) : El (.tup (zs.map .str)) := by
  refine El.leaf ⟨⟨rfl, fun ds e => ?_⟩, rfl, fun y e => by cases e⟩ (nice_tupD (fun d hd => ?_) (by rw [List.length_map]; exact hl)) ?_
  · cases e
    refine ⟨by rw [List.length_map]; omega, fun x hx => ?_⟩
    obtain ⟨z, hz, rfl⟩ := List.mem_map.mp hx
    exact ⟨(El.word (h z hz)).ok.w, nice_strD (isW_okS (h z hz))⟩
  · obtain ⟨z, hz, rfl⟩ := List.mem_map.mp hd
    exact .inl ⟨z, rfl, isW_okS (h z hz), by have := (h z hz).2.1; show (cs z).length ≤ 20; omega⟩
  · show (pyqL (zs.map .str)).map PyData.tuple = (pyL (zs.map .str)).map PyData.tuple
    rw [pyqL_strs, pyL_strs]
/-! ### repr of a tuple with an empty dict in it -/
structure NiceQL (ps : List PyData) (n : Nat) : Prop where
  ls : PyData.leavesShortAll 20 ps = true
  sh : PyData.showableAll ps = true
  dp : PyData.depthAll ps ≤ 30
  wt : PyData.weightAll ps ≤ n * 200 + n
theorem niceQL : ∀ {ps : List PyData}, (∀ p ∈ ps, niceQ p = true) → NiceQL ps ps.length
  | [], _ => ⟨rfl, rfl, by simp [PyData.depthAll], by simp [PyData.weightAll]⟩
  | p :: r, h => by
    have k := h p (by simp)
    have ih := niceQL (ps := r) fun x hx => h x (List.mem_cons_of_mem _ hx)
    unfold niceQ at k
    simp only [Bool.and_eq_true, decide_eq_true_eq] at k
    obtain ⟨k1, k2, k3, k4⟩ := k
    have w1 := ih.wt
    refine ⟨by simp [PyData.leavesShortAll, k1, ih.ls], by simp [PyData.showableAll, k2, ih.sh], ?_, ?_⟩
    · have := ih.dp
      simp only [PyData.depthAll]
      omega
    · simp only [PyData.weightAll, List.length_cons]
      omega
theorem pyqL_nice : ∀ {ds : List D}, (∀ d ∈ ds, qn d = true) → ∃ ps, pyqL ds = some ps ∧ ps.length = ds.length ∧ ∀ p ∈ ps, niceQ p = true
  | [], _ => ⟨[], rfl, rfl, by simp⟩
  | d :: r, h => by
    have hd := h d (by simp)
    obtain ⟨ps, e2, l, k2⟩ := pyqL_nice (ds := r) fun x hx => h x (List.mem_cons_of_mem _ hx)
    unfold qn at hd
    cases e : d.pyq with
    | none => rw [e] at hd; cases hd
    | some p =>
      rw [e] at hd
      refine ⟨p :: ps, ?_, by simp [l], fun x hx => ?_⟩
      · show d.pyq.bind (fun p => (pyqL r).map (p :: ·)) = _
        rw [e, e2]
        rfl
      · rcases List.mem_cons.mp hx with rfl | hx
        · exact hd
        · exact k2 x hx
theorem showQ_tup {ps : List PyData} (h : ∀ p ∈ ps, niceQ p = true) (hl : ps.length ≤ 100) : showQ (.tuple ps) = true := by
  have k := niceQL h
  have w1 := k.wt
  have s1 := PyData.shown_le 20 (by decide) (.tuple ps) (by simp only [PyData.leavesShort]; exact k.ls)
  simp only [PyData.weight] at s1
  have d1 := k.dp
  have a1 : (PyData.tuple ps).showable = true := by simp only [PyData.showable]; exact k.sh
  have a2 : (PyData.tuple ps).depth ≤ 40 := by show PyData.depthAll ps + 1 ≤ 40; omega
  unfold showQ
  rw [a1, decide_eq_true a2, show szOk (PyData.shown (.tuple ps)).length = true from decide_eq_true (by omega)]
  rfl
theorem reprq_q {ds : List D} (h : ∀ d ∈ ds, qn d = true) (hn : D.py (.tup ds) = none) (hl : ds.length ≤ 100) : ∃ z, oReprQ (.tup ds) = pure (.str z) := by
  obtain ⟨ps, e, l, k⟩ := pyqL_nice h
  refine ⟨PyData.shown (.tuple ps), ?_⟩
  show (match D.py (.tup ds) with
    | some _ => oRepr (.tup ds)
    | none => optM (pyqL ds) >>= fun ps => guardM (showQ (.tuple ps)) >>= fun _ => pure (.str (PyData.shown (.tuple ps)))) = _
  rw [hn]
  show (optM (pyqL ds) >>= fun ps => guardM (showQ (.tuple ps)) >>= fun _ => (pure (.str (PyData.shown (.tuple ps))) : M D)) = _
  rw [e, opt_some, guard_true (showQ_tup k (by omega))]
theorem reprq_n {ds : List D} (h : ∀ d ∈ ds, d.nice = true) (hl : ds.length ≤ 100) : ∃ z, oReprQ (.tup ds) = pure (.str z) := by
  obtain ⟨ps, e, er⟩ := repr_tup h hl
  refine ⟨PyData.shown (.tuple ps), ?_⟩
  show (match D.py (.tup ds) with
    | some _ => oRepr (.tup ds)
    | none => optM (pyqL ds) >>= fun ps => guardM (showQ (.tuple ps)) >>= fun _ => pure (.str (PyData.shown (.tuple ps)))) = _
  rw [show D.py (.tup ds) = some (.tuple ps) by show (pyL ds).map PyData.tuple = _; rw [e]; rfl]
  exact er
end Lw
set_option Elab.async false
set_option linter.all false
set_option maxRecDepth 100000
set_option maxHeartbeats 4000000
namespace Lw
open PySem L2 DL
/-! ### what is drawn -/
section
variable {n : Nat} {env : LE}
theorem draw_ev {i : Nat} {c : Int} (h : env[i]? = some (some (.val (.loc n)))) (h0 : 0 < c) (h1 : c < 2 ^ 64) : Tr (St n) (eCall 2 m__law_draw [] (aCons (eVar i) (aCons (eK (.int c)) aNil)) env) (fun d => ∃ j : Int, d = .int j ∧ 0 ≤ j ∧ j < c) :=
  Tr.eCall2 (Tr.eVar h) Tr.eK fun x y hx hy => by
    subst hx
    subst hy
    exact draw_ok n c h0 h1
theorem choose_ev {i : Nat} {m : LE → M D} {P : List D → Prop} (h : env[i]? = some (some (.val (.loc n)))) (hm : Tr (St n) (m env) (fun d => ∃ ds, d = .lst ds ∧ P ds)) (hp : ∀ ds, P ds → ds ≠ [] ∧ ds.length < 2 ^ 64) : Tr (St n) (eCall 2 m__law_choose [] (aCons (eVar i) (aCons m aNil)) env) (fun d => ∃ ds, P ds ∧ d ∈ ds) :=
  Tr.eCall2 (Tr.eVar h) hm fun x y hx hy => by
    subst hx
    obtain ⟨ds, rfl, hd⟩ := hy
    obtain ⟨h1, h2⟩ := hp ds hd
    exact (choose_ok n ds h1 h2).imp fun d q => ⟨ds, hd, q⟩
theorem choose_w {i : Nat} {m : LE → M D} {ds : List D} (h : env[i]? = some (some (.val (.loc n)))) (hm : m env = pure (.lst ds)) (h1 : ds ≠ []) (h2 : ds.length < 2 ^ 64) : Tr (St n) (eCall 2 m__law_choose [] (aCons (eVar i) (aCons m aNil)) env) (fun d => d ∈ ds) :=
  (choose_ev (P := fun xs => xs = ds) h (Tr.of_pure hm ⟨ds, rfl, rfl⟩) fun xs q => by subst q; exact ⟨h1, h2⟩).imp fun d hd => by
    obtain ⟨xs, rfl, q⟩ := hd
    exact q
/-! parts of a tuple -/
def Els (k : Nat) (ds : List D) : Prop := (∀ d ∈ ds, El d) ∧ ds.length = k
theorem els_nil : Tr (St n) (aNil env) (Els 0) := Tr.pure ⟨by simp, rfl⟩
theorem els_cons {k : Nat} {m : LE → M D} {q : LE → M (List D)} (h : Tr (St n) (m env) El) (r : Tr (St n) (q env) (Els k)) : Tr (St n) (aCons m q env) (Els (k + 1)) :=
  Tr.aCons h r fun x ds hx hd => ⟨fun d hm => by
    rcases List.mem_cons.mp hm with rfl | hm
    · exact hx
    · exact hd.1 d hm, by rw [List.length_cons, hd.2]⟩
def StepD (d : D) : Prop := ∃ ds, d = .tup ds ∧ (∀ x ∈ ds, El x) ∧ 2 ≤ ds.length ∧ ds.length ≤ 4
theorem els_tup {k : Nat} {q : LE → M (List D)} (h : Tr (St n) (q env) (Els k)) (h2 : 2 ≤ k) (h4 : k ≤ 4) : Tr (St n) (eTup q env) StepD :=
  (Tr.eTup h fun ds hd => by have := hd.2; omega).imp fun d hd => by
    obtain ⟨ds, rfl, h1, hl⟩ := hd
    exact ⟨ds, rfl, h1, by omega, by omega⟩
end
theorem word_of (z : Str) (h : ((decide (1 ≤ (cs z).length) && decide ((cs z).length ≤ 8)) && (cs z).all fun c => decide (97 ≤ c) && decide (c ≤ 122)) = true) : isW z := by
  simp only [Bool.and_eq_true, decide_eq_true_eq, List.all_eq_true] at h
  exact ⟨h.1.1, h.1.2, fun c hc => h.2 c hc⟩
/-- up to three words -/
structure Nm (zs : List Str) : Prop where
  w : ∀ z ∈ zs, isW z
  l : zs.length ≤ 3
  p : zs ≠ []
theorem sub_strs {zs : List Str} : ∀ {rs : List D}, (∀ x ∈ rs, x ∈ zs.map D.str) → ∃ ys : List Str, rs = ys.map .str ∧ ∀ y ∈ ys, y ∈ zs
  | [], _ => ⟨[], rfl, by simp⟩
  | x :: r, h => by
    obtain ⟨ys, rfl, k⟩ := sub_strs (rs := r) fun y hy => h y (List.mem_cons_of_mem _ hy)
    obtain ⟨z, hz, rfl⟩ := List.mem_map.mp (h x (by simp))
    exact ⟨z :: ys, rfl, fun y hy => by
      rcases List.mem_cons.mp hy with rfl | hy
      · exact hz
      · exact k y hy⟩
/-- values -/
structure Vl (vs : List (Option Str)) : Prop where
  w : ∀ v ∈ vs, ∀ z, v = some z → isW z
  l : vs.length ≤ 3
  p : vs ≠ []
theorem El.val {v : Option Str} (h : ∀ z, v = some z → isW z) : El (optS v) := by
  cases v with
  | none => exact El.non
  | some z => exact El.word (h z rfl)
section
variable {n : Nat} {zs : List Str} {vs : List (Option Str)} {env : LE} (hz : Nm zs) (hv : Vl vs)
theorem el_k (z : Str) (h : isW z) : Tr (St n) (eK (.str z) env) El := Tr.pure (El.word h)
include hz in
theorem el_name (h0 : env[0]? = some (some (.val (.loc n)))) (h1 : env[1]? = some (some (.val (.lst (zs.map .str))))) : Tr (St n) (eCall 2 m__law_choose [] (aCons (eVar 0) (aCons (eVar 1) aNil)) env) El :=
  (choose_w (n := n) (ds := zs.map .str) h0 (eVar_p h1) (by simpa using hz.p) (by have := hz.l; rw [List.length_map]; omega)).imp fun d hd => by
    obtain ⟨z, h, rfl⟩ := List.mem_map.mp hd
    exact El.word (hz.w z h)
include hv in
theorem el_val (h0 : env[0]? = some (some (.val (.loc n)))) (h2 : env[2]? = some (some (.val (.lst (vs.map optS))))) : Tr (St n) (eCall 2 m__law_choose [] (aCons (eVar 0) (aCons (eVar 2) aNil)) env) El :=
  (choose_w (n := n) (ds := vs.map optS) h0 (eVar_p h2) (by simpa using hv.p) (by have := hv.l; rw [List.length_map]; omega)).imp fun d hd => by
    obtain ⟨v, h, rfl⟩ := List.mem_map.mp hd
    exact El.val (hv.w v h)
include hz in
include hz hv in
end
end Lw
set_option Elab.async false
set_option linter.all false
set_option maxRecDepth 100000
set_option maxHeartbeats 4000000
namespace Lw
open PySem L2 DL
/-! ### Told, behind a store -/
theorem Wp.dput {mo mi me : LE → M D} {env : LE} {s s1 s2 s3 s4 : S} {o i d : D} {Q : LE → S → Prop} (he : me env s = .ok d s1) (ho : mo env s1 = .ok o s2) (hi : mi env s2 = .ok i s3) (hs : setDM o i d s3 = some s4) (q : Q env s4) : Wp (sDput mo mi me) env s Q := by
  refine Wp.sE he (Wp.sE ho (Wp.sE hi ⟨env, s4, ?_, q⟩))
  show (setDM o i d s3).map _ = _
  rw [hs]
  rfl
abbrev tfs (L : Nat) (p : D) : List (Str × D) := [("parent", p), ("tellings", .loc (L + 1)), ("answerings", .loc (L + 2)), ("running", .loc (L + 3)), ("gone", .loc (L + 4))]
def ts (s : S) (p : D) (te an ru go : List (Key × D)) : S := s ++ [some (.ins 4 (tfs s.length p)), some (.dct te), some (.dct an), some (.dct ru), some (.dct go)]
section
variable {s : S} {p : D} {te an ru go : List (Key × D)}
theorem ts_at (k : Nat) : (ts s p te an ru go)[s.length + k]? = ([some (.ins 4 (tfs s.length p)), some (.dct te), some (.dct an), some (.dct ru), some (.dct go)] : S)[k]? := by
  unfold ts
  rw [List.getElem?_append_right (by omega)]
  congr 1
  omega
theorem ts_lt {k : Nat} (h : k < s.length) : (ts s p te an ru go)[k]? = s[k]? := by
  unfold ts
  rw [List.getElem?_append_left h]
theorem ts_set (k : Nat) (x : Option O) : (ts s p te an ru go).set (s.length + k) x = s ++ ([some (.ins 4 (tfs s.length p)), some (.dct te), some (.dct an), some (.dct ru), some (.dct go)] : S).set k x := by
  unfold ts
  rw [List.set_append_right _ _ (by omega)]
  congr 2
  omega
theorem told_new {env : LE} : eMake 4 1 m_Told_init [] aNil env s = .ok (.loc s.length) (ts s .non [] [] [] []) := by
  show mkM 4 m_Told_init [] s = _
  refine mkM_ok ?_
  unfold m_Told_init b_Told_init
  rw [mFn_run]
  have v0 : ∀ t : S, eVar 0 (ent 1 [.loc s.length]) t = .ok (.loc s.length) t := fun t => rfl
  have al : ∀ (fs : List (Str × D)) (r : S) (env : LE), eLoc nDct0 env (s ++ some (.ins 4 fs) :: r) = .ok (.loc (s.length + (r.length + 1))) (s ++ some (.ins 4 fs) :: (r ++ [some (.dct [])])) := fun fs r env => by
    show R.ok (D.loc (s ++ some (O.ins 4 fs) :: r).length) ((s ++ some (O.ins 4 fs) :: r) ++ [some (.dct [])]) = _
    rw [List.length_append, List.length_cons, List.append_assoc, List.cons_append]
  have sf : ∀ (f : Str) (d : D) (fs gs : List (Str × D)) (r : S) (cs : List Nat), cs.contains 4 = true → fs.length < 1000 → putFd f d fs = gs → setFM cs f (.loc s.length) d (s ++ some (.ins 4 fs) :: r) = some (s ++ some (.ins 4 gs) :: r) := fun f d fs gs r cs hc hl hg => by
    subst hg
    unfold setFM
    have e : (s ++ some (O.ins 4 fs) :: r)[s.length]? = some (some (O.ins 4 fs)) := by rw [List.getElem?_append_right (Nat.le_refl _), Nat.sub_self]; rfl
    simp only [e, hc, decide_eq_true hl, Bool.and_self, if_true]
    rw [List.set_append_right _ _ (Nat.le_refl _), Nat.sub_self]
    rfl
  refine run_end (Wp.seq (Wp.setf (d := .non) (s1 := s ++ [some (.ins 4 [])]) rfl (v0 _) (sf _ _ _ [("parent", .non)] [] _ rfl (by decide) rfl) ?_))
  refine Wp.seq (Wp.setf (al _ _ _) (v0 _) (sf _ _ _ [("parent", .non), ("tellings", .loc (s.length + 1))] _ _ rfl (by decide) rfl) ?_)
  refine Wp.seq (Wp.setf (al _ _ _) (v0 _) (sf _ _ _ [("parent", .non), ("tellings", .loc (s.length + 1)), ("answerings", .loc (s.length + 2))] _ _ rfl (by show (2 : Nat) < 1000; decide) rfl) ?_)
  refine Wp.seq (Wp.setf (al _ _ _) (v0 _) (sf _ _ _ [("parent", .non), ("tellings", .loc (s.length + 1)), ("answerings", .loc (s.length + 2)), ("running", .loc (s.length + 3))] _ _ rfl (by show (3 : Nat) < 1000; decide) rfl) ?_)
  exact Wp.setf (al _ _ _) (v0 _) (sf _ _ _ (tfs s.length .non) _ _ rfl (by show (4 : Nat) < 1000; decide) rfl) rfl
/-- what stands at the word of a step -/
theorem w_ne {a b : Str} (h : a ≠ b) {env : LE} {t : S} {i : Nat} (hv : env[i]? = some (some (.val (.str a)))) : tOf (eBin oEqS (eVar i) (eK (.str b))) env t = .ok false t :=
  ok_pure (tOf_p (eBin_p (eVar_p hv) rfl (eqs_str.trans (by rw [decide_eq_false h]))))
theorem w_eq {a b : Str} (h : a = b) {env : LE} {t : S} {i : Nat} (hv : env[i]? = some (some (.val (.str a)))) : tOf (eBin oEqS (eVar i) (eK (.str b))) env t = .ok true t :=
  ok_pure (tOf_p (eBin_p (eVar_p hv) rfl (eqs_str.trans (by rw [decide_eq_true h]))))
abbrev e4 (L : Nat) (w : Str) (x : D) (r : List D) : LE := [some (.val (.loc L)), some (.val (.tup (.str w :: x :: r))), some (.val (.str w)), some (.val x)]
theorem say_head {w : Str} {x : D} {r : List D} {L : Nat} {t t' : S} (h : Wp (sIf (tOf (eBin oEqS (eVar 2) (eK (.str "parent")))) (sSetF fl_parent "parent" (eVar 0) (eTup (aCons (eIx (eVar 1) (eK (.int 1))) (aCons (eIx (eVar 1) (eK (.int 2))) aNil)))) (sIf (tOf (eBin oEqS (eVar 2) (eK (.str "tells")))) (sDput (eFld fl_tellings "tellings" (eVar 0)) (eVar 3) (eTup (aCons (eIx (eVar 1) (eK (.int 2))) (aCons (eIx (eVar 1) (eK (.int 3))) aNil)))) (sIf (tOf (eBin oEqS (eVar 2) (eK (.str "answers")))) (sDput (eFld fl_answerings "answerings" (eVar 0)) (eVar 3) (eTup (aCons (eIx (eVar 1) (eK (.int 2))) (aCons (eIx (eVar 1) (eK (.int 3))) aNil)))) (sIf (tOf (eBin oIn (eVar 2) (eTup (aCons (eK (.str "on")) (aCons (eK (.str "off")) aNil))))) (sDput (eFld fl_running "running" (eVar 0)) (eVar 3) (eBin oEqS (eVar 2) (eK (.str "on")))) (sDput (eFld fl_gone "gone" (eVar 0)) (eVar 3) (eBin oEqS (eVar 2) (eK (.str "gone")))))))) (e4 L w x r) t fun _ u => u = t') : m_Told_say [.loc L, .tup (.str w :: x :: r)] t = .ok .non t' := by
  unfold m_Told_say b_Told_say
  rw [mFn_run]
  refine run_end (Wp.seq (Wp.par (d := .str w) (e := x) (s' := t) (aCons_ok (ok_pure (ix_tup (k := 0) (ds := .str w :: x :: r) rfl rfl rfl)) (aCons_ok (ok_pure (ix_tup (k := 1) (ds := .str w :: x :: r) rfl rfl rfl)) aNil_ok)) h))
theorem fld_at {L k : Nat} {f : Str} {fs : List (Str × D)} {d : D} {cs : List Nat} {env : LE} {t : S} (h0 : env[0]? = some (some (.val (.loc L)))) (ht : t[L]? = some (some (.ins k fs))) (hc : cs.contains k = true) (hl : lookF f fs = some d) : eFld cs f (eVar 0) env t = .ok d t :=
  eFld_ok (eVar_ok h0) ht hc hl
theorem ts0 : (ts s p te an ru go)[s.length]? = some (some (.ins 4 (tfs s.length p))) := ts_at 0
theorem setD_at {t : S} {n : Nat} {kvs : List (Key × D)} {k : Key} {kd d : D} (h : t[n]? = some (some (.dct kvs))) (hk : keyD kd = some k) (hl : kvs.length ≤ 1000000) : setDM (.loc n) kd d t = some (t.set n (some (.dct (putD kvs k d)))) := by
  unfold setDM
  simp only [h, hk, show szOk kvs.length = true from decide_eq_true hl, if_true]
theorem say_par {x y : D} : m_Told_say [.loc s.length, .tup [.str "parent", x, y]] (ts s p te an ru go) = .ok .non (ts s (.tup [x, y]) te an ru go) := by
  refine say_head (Wp.if_t (w_eq rfl rfl) (Wp.setf (d := .tup [x, y]) rfl (eVar_ok (d := .loc s.length) rfl) (s3 := ts s (.tup [x, y]) te an ru go) ?_ rfl))
  unfold setFM
  simp only [ts0]
  rw [if_pos (show (fl_parent.contains 4 && decide ((tfs s.length p).length < 1000)) = true from rfl)]
  exact congrArg some (ts_set 0 _)
theorem say_tell {z : Str} {x y : D} (hl : te.length ≤ 1000000) : m_Told_say [.loc s.length, .tup [.str "tells", .str z, x, y]] (ts s p te an ru go) = .ok .non (ts s p (putD te (.inr z) (.tup [x, y])) an ru go) := by
  refine say_head (Wp.if_f (w_ne (by decide) rfl) (Wp.if_t (w_eq rfl rfl) (Wp.dput (d := .tup [x, y]) rfl (fld_at (L := s.length) rfl ts0 rfl rfl) (eVar_ok (d := .str z) rfl) (setD_at (ts_at 1) rfl hl) ?_)))
  rw [ts_set]
  rfl
theorem say_ans {z : Str} {x y : D} (hl : an.length ≤ 1000000) : m_Told_say [.loc s.length, .tup [.str "answers", .str z, x, y]] (ts s p te an ru go) = .ok .non (ts s p te (putD an (.inr z) (.tup [x, y])) ru go) := by
  refine say_head (Wp.if_f (w_ne (by decide) rfl) (Wp.if_f (w_ne (by decide) rfl) (Wp.if_t (w_eq rfl rfl) (Wp.dput (d := .tup [x, y]) rfl (fld_at (L := s.length) rfl ts0 rfl rfl) (eVar_ok (d := .str z) rfl) (setD_at (ts_at 2) rfl hl) ?_))))
  rw [ts_set]
  rfl
theorem say_on {z : Str} (hl : ru.length ≤ 1000000) : m_Told_say [.loc s.length, .tup [.str "on", .str z]] (ts s p te an ru go) = .ok .non (ts s p te an (putD ru (.inr z) (.bl true)) go) := by
  refine say_head (Wp.if_f (w_ne (by decide) rfl) (Wp.if_f (w_ne (by decide) rfl) (Wp.if_f (w_ne (by decide) rfl) (Wp.if_t (ok_pure (tOf_p (eBin_p (x := .str "on") (y := .tup [.str "on", .str "off"]) rfl rfl ((in_tup "on" "on" "off").trans rfl)))) (Wp.dput (d := .bl true) (ok_pure (eBin_p (x := .str "on") (y := .str "on") rfl rfl (eqs_str.trans rfl))) (fld_at (L := s.length) rfl ts0 rfl rfl) (eVar_ok (d := .str z) rfl) (setD_at (ts_at 3) rfl hl) ?_)))))
  rw [ts_set]
  rfl
end
end Lw
set_option Elab.async false
set_option linter.all false
set_option maxRecDepth 100000
set_option maxHeartbeats 4000000
namespace Lw
open PySem L2 DL
/-! ### walks of dicts, lists built, in the plain -/
theorem set_back {s : S} {n : Nat} {x y : Option O} (h : s[n]? = some x) : (s.set n y).set n x = s := by
  apply List.ext_getElem?
  intro j
  by_cases hj : n = j
  · subst hj
    rw [List.set_set, set_at h, h]
  · rw [List.getElem?_set_ne hj, List.getElem?_set_ne hj]
theorem mLock_ok {α : Type} {mo : LE → M D} {m : LE → M α} {env : LE} {s s0 s1 : S} {n : Nat} {kvs ks : List (Key × D)} {a : α} (h : mo env s = .ok (.loc n) s0) (hs : s[n]? = some (some (.dct kvs))) (r : m env (s.set n (some (.lk kvs))) = .ok a s1) (h1 : s1[n]? = some (some (.lk ks))) : mLock mo m env s = .ok a (s1.set n (some (.dct ks))) := by
  unfold mLock
  rw [h]
  simp only [hs]
  rw [r]
  show unl n a s1 = _
  unfold unl
  simp only [h1]
theorem lk_ok {s : S} {n : Nat} {kvs : List (Key × D)} (h : s[n]? = some (some (.lk kvs))) : lkM (.loc n) s = .ok kvs s := by
  show (match s[n]? with | some (some (.lk kvs)) => R.ok kvs s | _ => R.stuck) = _
  simp only [h]
theorem dctR_ok {s : S} {n : Nat} {kvs : List (Key × D)} (h : s[n]? = some (some (.dct kvs))) : dctR (.loc n) s = .ok kvs s := by
  show (match s[n]? with | some (some (.dct kvs)) => R.ok kvs s | some (some (.lk kvs)) => R.ok kvs s | _ => R.stuck) = _
  simp only [h]
theorem dctR_lk {s : S} {n : Nat} {kvs : List (Key × D)} (h : s[n]? = some (some (.lk kvs))) : dctR (.loc n) s = .ok kvs s := by
  show (match s[n]? with | some (some (.dct kvs)) => R.ok kvs s | some (some (.lk kvs)) => R.ok kvs s | _ => R.stuck) = _
  simp only [h]
theorem keys_ok {mo : LE → M D} {env : LE} {s s1 : S} {d : D} {kvs : List (Key × D)} (h : mo env s = .ok d s1) (k : lkM d s1 = .ok kvs s1) : iKeysD mo env s = .ok (kvs.map fun kv => keyOf kv.1) s1 := M.bind_to h (M.bind_to k rfl)
theorem items_okD {mo : LE → M D} {env : LE} {s s1 : S} {d : D} {kvs : List (Key × D)} (h : mo env s = .ok d s1) (k : lkM d s1 = .ok kvs s1) : iItemsD mo env s = .ok (kvs.map fun kv => .tup [keyOf kv.1, kv.2]) s1 := M.bind_to h (M.bind_to k rfl)
theorem noX_ok {α : Type} {m : M α} {s s1 : S} {a : α} (h : m s = .ok a s1) : noX m s = .ok a s1 := by
  unfold noX
  rw [h]
theorem nLc_ok {mi : LE → M (List D)} {g : GM} {t : LE → M Bool} {e : LE → M D} {own : List Nat} {env : LE} {s s1 s2 : S} {ds r : List D} (h : mi env s = .ok ds s1) (k : lcM g t e (wipeE env own) ds [] s1 = .ok r s2) : nLc mi g t e own env s = .ok (.lst r) s2 := M.bind_to h (M.bind_to (noX_ok k) rfl)
theorem lc_one {g : GM} {t : LE → M Bool} {e : LE → M D} {env env1 : LE} {s s1 s2 : S} {d y : D} (hg : g d env = some env1) (ht : t env1 s = .ok true s1) (he : e env1 s1 = .ok y s2) : lcM g t e env [d] [] s = .ok [y] s2 := by
  unfold lcM
  rw [hg]
  refine M.bind_to ht ?_
  show ((e env1 >>= fun y => guardM (szOk ([] : List D).length) >>= fun _ => lcM g t e env [] ([] ++ [y])) : M (List D)) s1 = _
  exact M.bind_to he rfl
theorem eFrz_ok {m : LE → M O} {env : LE} {s s1 : S} {ds : List D} (h : m env s = .ok (.lst ds) s1) : eFrz m env s = .ok (.lst ds) s1 := M.bind_to h rfl
theorem eBN_ok {f : D → M O} {ma : LE → M D} {env : LE} {s s1 s2 : S} {x : D} {z : O} (h : ma env s = .ok x s1) (r : f x s1 = .ok z s2) : eB (on1 f) (aCons ma aNil) env s = .ok z s2 := M.bind_to (M.bind_to h (M.bind_to (a := ([] : List D)) (s1 := s1) rfl rfl)) r
theorem eDGet2_ok {mo mk mz : LE → M D} {env : LE} {s : S} {o i z d : D} {k : Key} {kvs : List (Key × D)} (h1 : mo env s = .ok o s) (hd : dctR o s = .ok kvs s) (h2 : mk env s = .ok i s) (h3 : mz env s = .ok z s) (hk : keyD i = some k) (hv : (valD kvs k).getD z = d) : eDGet2 mo mk mz env s = .ok d s := by
  refine M.bind_to h1 (M.bind_to hd (M.bind_to h2 (M.bind_to h3 ?_)))
  refine M.bind_to hd ?_
  rw [hk, opt_some, hv]
  rfl
theorem dIn_ok {i o : D} {s : S} {k : Key} {kvs : List (Key × D)} {b : Bool} (hd : dctR o s = .ok kvs s) (hk : keyD i = some k) (hv : (valD kvs k).isSome = b) : oDIn i o s = .ok (.bl b) s := by
  show (dctR o >>= fun kvs => optM (keyD i) >>= fun k => (pure (.bl (if false = true then !(valD kvs k).isSome else (valD kvs k).isSome)) : M D)) s = _
  refine M.bind_to hd ?_
  rw [hk, opt_some, hv]
  rfl
theorem dGet_ok {i o d : D} {s : S} {k : Key} {kvs : List (Key × D)} (hd : dctR o s = .ok kvs s) (hk : keyD i = some k) (hv : valD kvs k = some d) : oDGet o i s = .ok d s := by
  show (dctR o >>= fun kvs => optM (keyD i) >>= fun k => (optM (valD kvs k) : M D)) s = _
  refine M.bind_to hd ?_
  rw [hk, opt_some, hv]
  rfl
theorem add_tup (xs ys : List D) (h : xs.length + ys.length ≤ 1000) : oAdd (.tup xs) (.tup ys) = pure (.tup (xs ++ ys)) := by
  show (guardM (szOk (xs.length + ys.length)) >>= fun _ => (pure (D.tup (xs ++ ys)) : M D)) = _
  rw [guard_true (show szOk _ = true from decide_eq_true (by omega))]
theorem srt_nil : srtS [] = [] := List.perm_nil.mp (srtS_perm [])
theorem order_nil : m_in_order [.lst []] = pure (.tup []) := by
  unfold m_in_order b_in_order
  rw [mFn_run, runS_ret]
  have e1 : eFrz (eB (on1 nSortS) (aCons (eFrz (nLc (iItems (eVar 0)) (gN 1) (tOf (eBin oNotN (eVar 1) (eK .non))) (eB (on1 oStr) (aCons (eVar 1) aNil)) [1])) aNil)) (ent 2 [.lst []]) = pure (.lst []) := by
    show (((optM (strsOf []) >>= fun xs => guardM (decide (xs.length < 64)) >>= fun _ => (pure (O.lst ((srtS xs).map .str)) : M O)) >>= O.dat) : M D) = _
    rw [show strsOf [] = some [] from rfl, opt_some, guard_true (show decide (([] : List Str).length < 64) = true from rfl), srt_nil]
    rfl
  exact eBin_p (x := .tup []) (y := .tup []) (eBin_p (x := .tup [.non]) (y := .int 0) rfl (eB1_p (x := .bl false) (eBin_p (x := .non) (y := .lst []) rfl rfl rfl) rfl) rfl) (eB1_p e1 rfl) rfl
/-! ### one server -/
section
variable {s : S} {p x t v u : D} {z : Str}
abbrev te1 (z : Str) (x t : D) : List (Key × D) := [(.inr z, .tup [x, t])]
abbrev ru1 (z : Str) : List (Key × D) := [(.inr z, .bl true)]
/-- Told with one ready server; its dict of what runs as it stands or locked -/
def tw (s : S) (p x t v u : D) (z : Str) (o : O) : S := s ++ [some (.ins 4 (tfs s.length p)), some (.dct (te1 z x t)), some (.dct (te1 z v u)), some o, some (.dct [])]
theorem tw_ts : ts s p (te1 z x t) (te1 z v u) (ru1 z) [] = tw s p x t v u z (.dct (ru1 z)) := rfl
theorem tw_at (o : O) (k : Nat) : (tw s p x t v u z o)[s.length + k]? = ([some (.ins 4 (tfs s.length p)), some (.dct (te1 z x t)), some (.dct (te1 z v u)), some o, some (.dct [])] : S)[k]? := by
  unfold tw
  rw [List.getElem?_append_right (by omega)]
  congr 1
  omega
theorem tw_set (o o' : O) : (tw s p x t v u z o).set (s.length + 3) (some o') = tw s p x t v u z o' := by
  unfold tw
  rw [List.set_append_right _ _ (by omega)]
  congr 1
  rw [show s.length + 3 - s.length = 3 by omega]
  rfl
theorem val1 {d : D} : valD [(.inr z, d)] (.inr z) = some d := by
  unfold valD
  simp
theorem run_at {o : O} {env : LE} (h0 : env[0]? = some (some (.val (.loc s.length)))) {f : Str} {d : D} {cs : List Nat} (hc : cs.contains 4 = true) (hl : lookF f (tfs s.length p) = some d) : eFld cs f (eVar 0) env (tw s p x t v u z o) = .ok d (tw s p x t v u z o) := fld_at h0 (tw_at o 0) hc hl
theorem ready_ok {o : O} (ho : dctR (.loc (s.length + 3)) (tw s p x t v u z o) = .ok (ru1 z) (tw s p x t v u z o)) : m_Told_is_ready [.loc s.length, .str z] (tw s p x t v u z o) = .ok (.bl true) (tw s p x t v u z o) := by
  unfold m_Told_is_ready b_Told_is_ready
  rw [mFn_run]
  refine runS_ret_ok (eAnd_ok (eDGet2_ok (run_at rfl rfl rfl) ho (eVar_ok (d := .str z) rfl) rfl rfl (by rw [val1]; rfl)) (eAnd_ok (eBin_ok (eVar_ok (d := .str z) rfl) (run_at rfl rfl rfl) (dIn_ok (dctR_ok (tw_at o 1)) rfl (by rw [val1]; rfl))) (eBin_ok (eVar_ok (d := .str z) rfl) (run_at rfl rfl rfl) (dIn_ok (dctR_ok (tw_at o 2)) rfl (by rw [val1]; rfl)))))
theorem rows_ok : m_Told_told_rows [.loc s.length] (tw s p x t v u z (.dct (ru1 z))) = .ok (.tup [.tup [.str z, x, t, v, u]]) (tw s p x t v u z (.dct (ru1 z))) := by
  unfold m_Told_told_rows b_Told_told_rows
  rw [mFn_run, runS_set]
  have a1 := tw_at (s := s) (p := p) (x := x) (t := t) (v := v) (u := u) (z := z) (.dct (ru1 z)) 3
  have a2 := tw_at (s := s) (p := p) (x := x) (t := t) (v := v) (u := u) (z := z) (.lk (ru1 z)) 3
  have e1 : mLock (eFld fl_running "running" (eVar 0)) (nLc (iKeysD (eFld fl_running "running" (eVar 0))) (gN 1) (tOf (eMeth 4 2 "is_ready" m_Told_is_ready [] (eVar 0) (aCons (eVar 1) aNil))) (eB (on1 oStr) (aCons (eVar 1) aNil)) [1]) (ent 3 [.loc s.length]) (tw s p x t v u z (.dct (ru1 z))) = .ok (.lst [.str z]) (tw s p x t v u z (.dct (ru1 z))) := by
    refine (mLock_ok (s1 := tw s p x t v u z (.lk (ru1 z))) (run_at rfl rfl rfl) a1 ?_ a2).trans (by rw [tw_set])
    rw [tw_set]
    refine nLc_ok (keys_ok (run_at rfl rfl rfl) (lk_ok a2)) ?_
    refine lc_one (y := .str z) rfl (tOf_ok (eMeth_ok (eVar_ok rfl) (tw_at _ 0) rfl (aCons_ok (eVar_ok (d := .str z) rfl) aNil_ok) rfl (ready_ok (dctR_lk a2)))) (eB1_ok (eVar_ok (d := .str z) rfl) rfl)
  have e2 : nSortS (.lst [.str z]) (tw s p x t v u z (.dct (ru1 z))) = .ok (.lst [.str z]) (tw s p x t v u z (.dct (ru1 z))) := by
    show (optM (strsOf [.str z]) >>= fun xs => guardM (decide (xs.length < 64)) >>= fun _ => (pure (O.lst ((srtS xs).map .str)) : M O)) _ = _
    rw [show strsOf [.str z] = some [z] from rfl, opt_some, guard_true (show decide ([z].length < 64) = true from rfl)]
    have : srtS [z] = [z] := by
      have := srtS_perm [z]
      exact List.perm_singleton.mp this
    rw [this]
    rfl
  refine M.bind_to (eFrz_ok (eBN_ok (eFrz_ok e1) e2)) ?_
  have rw1 : eBin oAdd (eBin oAdd (eTup (aCons (eVar 1) aNil)) (eBin oDGet (eFld fl_tellings "tellings" (eVar 0)) (eVar 1))) (eBin oDGet (eFld fl_answerings "answerings" (eVar 0)) (eVar 1)) [some (.val (.loc s.length)), some (.val (.str z)), some (.val (.lst [.str z]))] (tw s p x t v u z (.dct (ru1 z))) = .ok (.tup [.str z, x, t, v, u]) (tw s p x t v u z (.dct (ru1 z))) := by
    refine eBin_ok (s1 := (tw s p x t v u z (.dct (ru1 z)))) (s2 := (tw s p x t v u z (.dct (ru1 z)))) (y := .tup [v, u]) (eBin_ok (s1 := (tw s p x t v u z (.dct (ru1 z)))) (s2 := (tw s p x t v u z (.dct (ru1 z)))) (x := .tup [.str z]) (y := .tup [x, t]) rfl (eBin_ok (run_at rfl rfl rfl) (eVar_ok (d := .str z) rfl) (dGet_ok (dctR_ok (tw_at _ 1)) rfl val1)) (z := .tup [.str z, x, t]) ?_) (eBin_ok (run_at rfl rfl rfl) (eVar_ok (d := .str z) rfl) (dGet_ok (dctR_ok (tw_at _ 2)) rfl val1)) ?_
    · rw [add_tup _ _ (by simp)]; rfl
    · rw [add_tup _ _ (by simp)]; rfl
  refine runS_ret_ok (eB1_ok (x := .lst [.tup [.str z, x, t, v, u]]) (eFrz_ok (nLc_ok (ds := [.str z]) rfl (lc_one rfl rfl rw1))) rfl)
theorem seen_ok : m_Told_seen [.loc s.length] (tw s p x t v u z (.dct (ru1 z))) = .ok (.tup [p, .tup [.tup [.str z, x, t, v, u]], .tup []]) (tw s p x t v u z (.dct (ru1 z))) := by
  unfold m_Told_seen b_Told_seen
  rw [mFn_run]
  have a1 := tw_at (s := s) (p := p) (x := x) (t := t) (v := v) (u := u) (z := z) (.dct (ru1 z)) 4
  have e1 : mLock (eFld fl_gone "gone" (eVar 0)) (nLc (iItemsD (eFld fl_gone "gone" (eVar 0))) (gTupM 2 (gsCons (gN 1) (gsCons (gN 2) gsNil))) (tOf (eVar 2)) (eVar 1) [1, 2]) (ent 3 [.loc s.length]) (tw s p x t v u z (.dct (ru1 z))) = .ok (.lst []) (tw s p x t v u z (.dct (ru1 z))) := by
    have b0 : (tw s p x t v u z (.dct (ru1 z)))[s.length]? = some (some (.ins 4 (tfs s.length p))) := tw_at _ 0
    have b1 : ((tw s p x t v u z (.dct (ru1 z))).set (s.length + 4) (some (.lk [])))[s.length]? = some (some (.ins 4 (tfs s.length p))) := by rw [List.getElem?_set_ne (by omega)]; exact b0
    refine (mLock_ok (s1 := (tw s p x t v u z (.dct (ru1 z))).set (s.length + 4) (some (.lk []))) (run_at rfl rfl rfl) a1 ?_ (set_at a1)).trans (by rw [set_back a1])
    exact nLc_ok (items_okD (fld_at (L := s.length) rfl b1 rfl rfl) (lk_ok (set_at a1))) rfl
  refine runS_ret_ok ?_
  refine M.bind_to (a := [p, .tup [.tup [.str z, x, t, v, u]], .tup []]) (s1 := tw s p x t v u z (.dct (ru1 z))) (aCons_ok (run_at rfl rfl rfl) (aCons_ok (eMeth_ok (eVar_ok rfl) (tw_at _ 0) rfl aNil_ok rfl rows_ok) (aCons_ok (eCall1_ok (eFrz_ok e1) (by rw [order_nil]; rfl)) aNil_ok))) rfl
end
end Lw
set_option Elab.async false
set_option linter.all false
set_option maxRecDepth 100000
set_option maxHeartbeats 4000000
namespace Lw
open PySem L2 DL
/-! ### all names of some steps -/
theorem ts_all3 {env : LE} (h : 3 < env.length) : ∀ (ys acc : List Str), acc.length + ys.length < 4000 → tsM (gN 3) tTrue (eB (on1 oStr) (aCons (eVar 3) aNil)) env (ys.map .str) acc = pure (allS acc ys)
  | [], acc, _ => rfl
  | y :: ys, acc, hl => by
    rw [List.length_cons] at hl
    have g2 : (env.set 3 (some (.val (.str y))))[3]? = some (some (.val (.str y))) := List.getElem?_set_self h
    have e1 : eB (on1 oStr) (aCons (eVar 3) aNil) (env.set 3 (some (.val (.str y)))) = pure (.str y) := eB1_p (f := oStr) (eVar_p g2) rfl
    show ((pure true : M Bool) >>= fun b => if b = true then eB (on1 oStr) (aCons (eVar 3) aNil) (env.set 3 (some (.val (.str y)))) >>= fun z => strM z >>= fun k => guardM (decide (acc.length < 4000)) >>= fun _ => tsM (gN 3) tTrue (eB (on1 oStr) (aCons (eVar 3) aNil)) env (ys.map .str) (addS acc k) else tsM (gN 3) tTrue (eB (on1 oStr) (aCons (eVar 3) aNil)) env (ys.map .str) acc) = _
    rw [bind_pure', if_t, e1, bind_pure']
    show (guardM (decide (acc.length < 4000)) >>= fun _ => tsM (gN 3) tTrue (eB (on1 oStr) (aCons (eVar 3) aNil)) env (ys.map .str) (addS acc y)) = _
    rw [guard_true (decide_eq_true (by omega))]
    exact ts_all3 h ys (addS acc y) (by have := addS_len acc y; omega)
theorem sortsc_p3 {env : LE} {ys : List Str} (h1 : env[1]? = some (some (.val (.lst (ys.map .str))))) (hl : env.length = 4) (hy : ys.length < 3000) :
    eFrz (nSortSc (DL.iItems (eVar 1)) (gN 3) tTrue (eB (on1 oStr) (aCons (eVar 3) aNil)) [3]) env = pure (.lst ((srtS (allS [] ys)).map .str)) := by
  have r := ts_all3 (env := env.set 3 none) (by rw [List.length_set, hl]; decide) ys [] (by simp; omega)
  have n := allS_len ys []
  rw [List.length_nil] at n
  unfold eFrz nSortSc
  rw [show DL.iItems (eVar 1) env = pure (ys.map .str) by unfold DL.iItems; rw [eVar_p h1]; rfl, bind_pure', show wipeE env [3] = env.set 3 none from rfl, r, noX_pure, bind_pure', guard_true (decide_eq_true (by omega)), bind_pure']
  rfl
/-- a step that is one, as the program sees it -/
structure StG (st : Stp) : Prop where
  ok : st.ok
  is : m_is_step [st.d] = pure (.bl true)
def namesOf (sts : List Stp) : List Str := sts.flatMap Stp.names
theorem Wp.ext {i : Nat} {m : LE → M D} {env : LE} {s s' : S} {ds es : List D} {Q : LE → S → Prop} (hi : env[i]? = some (some (.own (.lst ds)))) (h : m env s = .ok (.lst es) s') (hz : ds.length ≤ 1000000) (hy : es.length ≤ 1000000) (q : Q (env.set i (some (.own (.lst (ds ++ es))))) s') : Wp (sExt i m) env s Q := by
  refine ⟨_, s', ?_, q⟩
  unfold sExt
  rw [hi]
  show DL.sE m _ env s = _
  unfold DL.sE
  rw [h]
  show (if (szOk ds.length && szOk es.length) = true then _ else none) = _
  rw [if_pos (by rw [show szOk ds.length = true from decide_eq_true hz, show szOk es.length = true from decide_eq_true hy]; rfl)]
theorem named_loop {B : D} (s : S) : ∀ (sts : List Stp) (acc : List Str) (x : Option SD), (∀ st ∈ sts, StG st) → acc.length + (namesOf sts).length < 3000 →
    Wp (forM' (gN 2) b_named_by_L1 (sts.map Stp.d)) [some (.val B), some (.own (.lst (acc.map .str))), x, none] s fun e t => t = s ∧ ∃ y, e = [some (.val B), some (.own (.lst ((acc ++ namesOf sts).map .str))), y, none]
  | [], acc, x, _, _ => Wp.nil ⟨rfl, x, by simp [namesOf]⟩
  | st :: r, acc, x, h, hl => by
    have g := h st (by simp)
    have el : namesOf (st :: r) = st.names ++ namesOf r := by simp [namesOf]
    rw [el, List.length_append] at hl
    refine Wp.cons rfl (Wp.ext (es := st.names.map .str) rfl (eCall1_ok (eVar_ok (d := st.d) rfl) (by rw [servers_ok g.ok g.is]; rfl)) (by rw [List.length_map]; omega) (by rw [List.length_map]; omega) ?_)
    rw [← List.map_append]
    refine (named_loop s r (acc ++ st.names) _ (fun q hq => h q (List.mem_cons_of_mem _ hq)) (by rw [List.length_append]; omega)).imp fun e t q => ?_
    obtain ⟨rfl, y, rfl⟩ := q
    exact ⟨rfl, y, by rw [el, List.append_assoc]⟩
theorem named_ok {sts : List Stp} (h : ∀ st ∈ sts, StG st) (hl : (namesOf sts).length < 3000) {B : D} (hB : B = .tup (sts.map Stp.d) ∨ B = .lst (sts.map Stp.d)) (s : S) : m_named_by [B] s = .ok (.lst ((srtS (allS [] (namesOf sts))).map .str)) s := by
  unfold m_named_by b_named_by
  rw [mFn_run, runS_own]
  refine M.bind_to (a := .lst []) (s1 := s) rfl ?_
  obtain ⟨d, s', e, rfl, rfl⟩ := run_wpE (n := sFrz 1 (sRet (eFrz (nSortSc (iItems (eVar 1)) (gN 3) tTrue (eB (on1 oStr) (aCons (eVar 3) aNil)) [3])))) (P := fun d t => d = .lst ((srtS (allS [] (namesOf sts))).map .str) ∧ t = s) (b := sFor (iItems (eVar 0)) (gN 2) b_named_by_L1) (env := [some (.val B), some (.own (.lst [])), none, none]) (s := s) (Wp.for (ds := sts.map Stp.d) (s' := s) (by rcases hB with rfl | rfl <;> rfl) ((named_loop s sts [] none h (by simpa using hl)).imp fun e t q => by
    obtain ⟨rfl, y, rfl⟩ := q
    refine ⟨_, t, ?_, rfl, rfl⟩
    rw [runS_frzE, runS_ret]
    show eFrz _ [some (.val B), some (.val (.lst (([] ++ namesOf sts).map .str))), y, none] t = _
    rw [List.nil_append, sortsc_p3 rfl rfl (by omega)]
    rfl))
  exact e
theorem any_bls (bs : List Bool) : oAny (.lst (bs.map .bl)) = pure (.bl (bs.any id)) := by
  have e : ∀ bs : List Bool, blsOf (bs.map .bl) = some bs := fun bs => by
    induction bs with
    | nil => rfl
    | cons b r ih => show (blsOf (r.map .bl)).map (b :: ·) = _; rw [ih]; rfl
  show ((pure (bs.map D.bl) : M (List D)) >>= fun ds => optM (blsOf ds) >>= fun bs => (pure (D.bl (bs.any id)) : M D)) = _
  rw [bind_pure', e, opt_some]
/-! ### a world made -/
abbrev wfs (L : Nat) (B : D) : List (Str × D) := [("first", B), ("said", .loc (L + 1))]
def ws (s : S) (B : D) : S := s ++ [some (.ins 5 (wfs s.length B)), some (.dct [])]
theorem word_par (st : Stp) : ∃ w x r, st.d = .tup (.str w :: x :: r) := by
  cases st <;> exact ⟨_, _, _, rfl⟩
def parB' : Stp → Bool
  | .par _ _ => true
  | _ => false
theorem is_par (st : Stp) {env : LE} (h : env[2]? = some (some (.val st.d))) : eBin oEqS (eIx (eVar 2) (eK (.int 0))) (eK (.str "parent")) env = pure (.bl (parB' st)) := by
  have key : ∀ (w : Str) (x : D) (r : List D) (b : Bool), st.d = .tup (.str w :: x :: r) → decide (w = "parent") = b → eBin oEqS (eIx (eVar 2) (eK (.int 0))) (eK (.str "parent")) env = pure (.bl b) := fun w x r b e q => by
    rw [e] at h
    exact eBin_p (ix_tup (k := 0) h rfl rfl) rfl (eqs_str.trans (by rw [q]))
  cases st with
  | par zs t => exact key _ _ _ _ rfl rfl
  | tell n zs t => exact key _ _ _ _ rfl rfl
  | ans n v t => exact key _ _ _ _ rfl rfl
  | onf b n => cases b <;> exact key _ _ _ _ rfl (by first | rfl | decide)
  | gn b v => cases b <;> exact key _ _ _ _ rfl (by first | rfl | decide)
theorem init_ok {sts : List Stp} (h : ∀ st ∈ sts, StG st) (hl : sts.length ≤ 1000) (hn : (namesOf sts).length < 3000) (h5 : (srtS (allS [] (namesOf sts))).length ≤ 5) (hp : sts.any parB' = true) (s : S) :
    m_World_init [.loc s.length, .tup (sts.map Stp.d)] (s ++ [some (.ins 5 [])]) = .ok .non (ws s (.tup (sts.map Stp.d))) := by
  unfold m_World_init b_World_init
  rw [mFn_run]
  generalize hT : s ++ [some (O.ins 5 [])] = T
  refine run_end (Wp.seq (Wp.for (ds := sts.map Stp.d) (s' := T) rfl (Wp.each (I := fun e t => t = T ∧ ∃ y, e = [some (.val (.loc s.length)), some (.val (.tup (sts.map Stp.d))), y]) _ ⟨rfl, none, rfl⟩ (fun d hd e t q => ?_) fun e t q => ?_)))
  · obtain ⟨st, hst, rfl⟩ := List.mem_map.mp hd
    obtain ⟨rfl, y, rfl⟩ := q
    exact ⟨_, rfl, Wp.expr (eCall1_ok (eVar_ok (d := st.d) rfl) (by rw [check_good (h st hst).is]; rfl)) ⟨rfl, _, rfl⟩⟩
  · obtain ⟨rfl, y, rfl⟩ := q
    have e1 : eB (on1 oAny) (aCons (eFrz (nLc (DL.iItems (eVar 1)) (gN 2) tTrue (eBin oEqS (eIx (eVar 2) (eK (.int 0))) (eK (.str "parent"))) [2])) aNil) [some (.val (.loc s.length)), some (.val (.tup (sts.map Stp.d))), y] = pure (.bl true) := by
      have n1 := nLc_map (mi := DL.iItems (eVar 1)) (g := gN 2) (e := eBin oEqS (eIx (eVar 2) (eK (.int 0))) (eK (.str "parent"))) (own := [2]) (env := [some (.val (.loc s.length)), some (.val (.tup (sts.map Stp.d))), y]) Stp.d (fun st => .bl (parB' st)) sts rfl (fun st hs => ⟨_, rfl, is_par st rfl⟩) (by omega)
      have n2 : eFrz (nLc (DL.iItems (eVar 1)) (gN 2) tTrue (eBin oEqS (eIx (eVar 2) (eK (.int 0))) (eK (.str "parent"))) [2]) [some (.val (.loc s.length)), some (.val (.tup (sts.map Stp.d))), y] = pure (.lst ((sts.map parB').map .bl)) := by
        unfold eFrz
        rw [n1, bind_pure', List.map_map]
        rfl
      refine eB1_p n2 ((any_bls _).trans ?_)
      rw [List.any_map]
      show (pure (D.bl (sts.any (id ∘ parB'))) : M D) = _
      rw [show (id ∘ parB') = parB' from rfl, hp]
    refine Wp.seq (Wp.pass (s' := t) (tOr_ok (tNot_ok (tOf_ok (ok_pure e1))) (b := false) (tOf_ok (eBin_ok (x := .int (srtS (allS [] (namesOf sts))).length) (y := .int 5) (s1 := t) (s2 := t) (eB1_ok (eCall1_ok (eVar_ok (d := .tup (sts.map Stp.d)) rfl) (named_ok h hn (.inl rfl) t)) ?_) rfl ?_))) ?_)
    · show R.ok (D.int ((srtS (allS [] (namesOf sts))).map D.str).length) t = _
      rw [List.length_map]
    · show (oGt (.int _) (.int 5)) t = _
      rw [oGt_int, decide_eq_false (by omega)]
      rfl
    · have hs0 : t[s.length]? = some (some (.ins 5 [])) := by rw [← hT]; exact at_new
      have q1 : setFM fl_first "first" (.loc s.length) (.tup (sts.map Stp.d)) t = some (s ++ [some (.ins 5 [("first", .tup (sts.map Stp.d))])]) := by rw [← hT]; exact setFM_new rfl (by decide)
      refine Wp.seq (Wp.setf (eVar_ok (d := .tup (sts.map Stp.d)) rfl) (eVar_ok (d := .loc s.length) rfl) q1 ?_)
      refine Wp.setf (d := .loc (s.length + 1)) (s1 := s ++ some (.ins 5 [("first", .tup (sts.map Stp.d))]) :: [some (.dct [])]) (s3 := ws s (.tup (sts.map Stp.d))) ?_ (eVar_ok (d := .loc s.length) rfl) ?_ rfl
      · show R.ok (D.loc (s ++ [some (O.ins 5 [("first", .tup (sts.map Stp.d))])]).length) ((s ++ [some (O.ins 5 [("first", .tup (sts.map Stp.d))])]) ++ [some (.dct [])]) = _
        rw [List.length_append, List.append_assoc]
        rfl
      · unfold setFM
        have e : (s ++ some (O.ins 5 [("first", .tup (sts.map Stp.d))]) :: [some (O.dct [])])[s.length]? = some (some (O.ins 5 [("first", .tup (sts.map Stp.d))])) := by rw [List.getElem?_append_right (Nat.le_refl _), Nat.sub_self]; rfl
        simp only [e]
        rw [if_pos (by rfl), List.set_append_right _ _ (Nat.le_refl _), Nat.sub_self]
        rfl
theorem of_ok {sts : List Stp} (h : ∀ st ∈ sts, StG st) (hl : sts.length ≤ 1000) (hn : (namesOf sts).length < 3000) (h5 : (srtS (allS [] (namesOf sts))).length ≤ 5) (hp : sts.any parB' = true) (s : S) :
    m_World_of [.lst (sts.map Stp.d)] s = .ok (.loc s.length) (ws s (.tup (sts.map Stp.d))) := by
  unfold m_World_of b_World_of
  rw [mFn_run]
  refine runS_pass (s1 := s) (ok_pure (tNot_p (a := true) (tOf_p rfl))) (runS_ret_ok ?_)
  have e1 : aStar (eVar 0) aNil (ent 1 [.lst (sts.map Stp.d)]) s = .ok (sts.map Stp.d) s := by
    show R.ok (sts.map Stp.d ++ []) s = _
    rw [List.append_nil]
  refine M.bind_to e1 ?_
  show ((guardM (decide (0 ≤ (sts.map Stp.d).length) && szOk (sts.map Stp.d).length) >>= fun _ => mkM 5 m_World_init (stD 0 (sts.map Stp.d))) : M D) s = _
  rw [guard_true (by rw [decide_eq_true (Nat.zero_le _), List.length_map]; exact decide_eq_true (by omega))]
  exact mkM_ok (init_ok h hl hn h5 hp s)
end Lw
set_option Elab.async false
set_option linter.all false
set_option maxRecDepth 100000
set_option maxHeartbeats 4000000
namespace Lw
open PySem L2 DL
/-! ### a world of one server, asked -/
section
variable {s : S} {p1 p2 x t v u : D} {z : Str} {w m : Nat}
theorem moments_ok {fs : List (Str × D)} (hw : s[w]? = some (some (.ins 5 fs))) (hl : lookF "said" fs = some (.loc m)) (hm : s[m]? = some (some (.dct []))) : m_World_moments [.loc w] s = .ok (.lst []) s := by
  unfold m_World_moments b_World_moments
  rw [mFn_run]
  have hne : w ≠ m := fun e => by subst e; rw [hw] at hm; cases hm
  have hw2 : (s.set m (some (.lk [])))[w]? = some (some (.ins 5 fs)) := by rw [List.getElem?_set_ne (Ne.symm hne)]; exact hw
  have e1 : mLock (eFld fl_said "said" (eVar 0)) (nLc (iKeysD (eFld fl_said "said" (eVar 0))) (gN 1) tTrue (eB (on1 oInt) (aCons (eVar 1) aNil)) [1]) (ent 2 [.loc w]) s = .ok (.lst []) s := by
    refine (mLock_ok (s1 := s.set m (some (.lk []))) (fld_at (L := w) rfl hw rfl hl) hm ?_ (set_at hm)).trans (by rw [set_back hm])
    exact nLc_ok (keys_ok (fld_at (L := w) rfl hw2 rfl hl) (lk_ok (set_at hm))) rfl
  refine runS_ret_ok (eFrz_ok (eBN_ok (eFrz_ok e1) ?_))
  show (guardM (decide (([] : List Int).length < 64)) >>= fun _ => (pure (.lst ((srtI []).map .int)) : M O)) s = _
  rw [guard_true (show decide (([] : List Int).length < 64) = true from rfl)]
  have : srtI [] = [] := by first | rfl | exact List.perm_nil.mp (List.mergeSort_perm _ _)
  rw [this]
  rfl
abbrev wP (p1 p2 : D) : D := .tup [.str "parent", p1, p2]
abbrev wT (z : Str) (x t : D) : D := .tup [.str "tells", .str z, x, t]
abbrev wA (z : Str) (v u : D) : D := .tup [.str "answers", .str z, v, u]
abbrev wO (z : Str) : D := .tup [.str "on", .str z]
abbrev wB (p1 p2 x t v u : D) (z : Str) : D := .tup [wP p1 p2, wT z x t, wA z v u, wO z]
theorem call_ok (hw : s[w]? = some (some (.ins 5 [("first", wB p1 p2 x t v u z), ("said", .loc m)]))) (hm : s[m]? = some (some (.dct []))) (i : Int) :
    m_World_call [.loc w, .int i] s = .ok (.tup [.tup [p1, p2], .tup [.tup [.str z, x, t, v, u]], .tup []]) (tw s (.tup [p1, p2]) x t v u z (.dct (ru1 z))) := by
  have lw : w < s.length := (List.getElem?_eq_some_iff.mp hw).1
  have lm : m < s.length := (List.getElem?_eq_some_iff.mp hm).1
  unfold m_World_call b_World_call
  rw [mFn_run]
  refine runS_pass (s1 := s) (ok_pure (tNot_p (a := true) (tOf_p (eCall1_p (x := .int i) rfl (is_integer_ok rfl))))) ?_
  rw [runS_set]
  refine M.bind_to told_new ?_
  show runS _ [some (.val (.loc w)), some (.val (.int i)), some (.val (.loc s.length)), none, none] (ts s .non [] [] [] []) = _
  have say : ∀ (st : D) (q : D) (S1 S2 : S) (Q : LE → S → Prop), m_Told_say [.loc s.length, st] S1 = .ok .non S2 → S1[s.length]? = some (some (.ins 4 (tfs s.length q))) → Q [some (.val (.loc w)), some (.val (.int i)), some (.val (.loc s.length)), some (.val st), none] S2 →
      Wp b_World_call_L1 [some (.val (.loc w)), some (.val (.int i)), some (.val (.loc s.length)), some (.val st), none] S1 Q := fun st q S1 S2 Q h1 h2 h3 =>
    Wp.expr (eMeth_ok (eVar_ok rfl) h2 rfl (aCons_ok (eVar_ok (d := st) rfl) aNil_ok) rfl h1) h3
  have hw2 : ∀ {p te an ru go}, (ts s p te an ru go)[w]? = some (some (.ins 5 [("first", wB p1 p2 x t v u z), ("said", .loc m)])) := fun {p te an ru go} => (ts_lt lw).trans hw
  have hm2 : ∀ {p te an ru go}, (ts s p te an ru go)[m]? = some (some (.dct [])) := fun {p te an ru go} => (ts_lt lm).trans hm
  have key := run_wpE (n := sSeq (sFor (DL.iItems (eMeth 5 1 "moments" m_World_moments [] (eVar 0) aNil)) (gN 4) b_World_call_L3) (sRet (eMeth 4 1 "seen" m_Told_seen [] (eVar 2) aNil))) (b := sFor (DL.iItems (eFld fl_first "first" (eVar 0))) (gN 3) b_World_call_L1) (env := [some (.val (.loc w)), some (.val (.int i)), some (.val (.loc s.length)), none, none]) (s := ts s .non [] [] [] [])
      (P := fun d S => d = .tup [.tup [p1, p2], .tup [.tup [.str z, x, t, v, u]], .tup []] ∧ S = tw s (.tup [p1, p2]) x t v u z (.dct (ru1 z))) (Wp.for (ds := [wP p1 p2, wT z x t, wA z v u, wO z]) (s' := ts s .non [] [] [] []) (M.bind_to (fld_at (L := w) rfl hw2 rfl rfl) rfl) (by
    refine Wp.cons rfl (say (wP p1 p2) .non _ _ _ say_par ts0 ?_)
    refine Wp.cons rfl (say (wT z x t) (.tup [p1, p2]) _ _ _ (say_tell (by simp)) ts0 ?_)
    refine Wp.cons rfl (say (wA z v u) (.tup [p1, p2]) _ _ _ (say_ans (by simp)) ts0 ?_)
    refine Wp.cons rfl (say (wO z) (.tup [p1, p2]) _ _ _ (say_on (by simp)) ts0 ?_)
    refine Wp.nil ?_
    show ∃ d s', runS _ [some (.val (.loc w)), some (.val (.int i)), some (.val (.loc s.length)), some (.val (wO z)), none] (tw s (.tup [p1, p2]) x t v u z (.dct (ru1 z))) = _ ∧ _
    refine run_wpE (n := sRet (eMeth 4 1 "seen" m_Told_seen [] (eVar 2) aNil)) (b := sFor (DL.iItems (eMeth 5 1 "moments" m_World_moments [] (eVar 0) aNil)) (gN 4) b_World_call_L3) (Wp.for (ds := []) (s' := tw s (.tup [p1, p2]) x t v u z (.dct (ru1 z))) (M.bind_to (eMeth_ok (eVar_ok rfl) (hw2 (ru := ru1 z)) rfl aNil_ok rfl (moments_ok (m := m) (hw2 (ru := ru1 z)) rfl (hm2 (ru := ru1 z)))) rfl) (Wp.nil ?_))
    exact ⟨_, _, runS_ret_ok (eMeth_ok (eVar_ok rfl) (tw_at _ 0) rfl aNil_ok rfl seen_ok), rfl, rfl⟩))
  obtain ⟨d, s', e, rfl, rfl⟩ := key
  exact e
end
end Lw
set_option Elab.async false
set_option linter.all false
set_option maxRecDepth 100000
set_option maxHeartbeats 4000000
namespace Lw
open PySem L2 DL
/-! ### statements that end -/
section
variable {env env' : LE} {s s' s1 : S} {a b : SM} {d : D} {x : XC} {fs : List (Str × D)}
theorem seq_rt (h : a env s = some (.rt d, s')) : sSeq a b env s = some (.rt d, s') := by
  unfold sSeq
  rw [h]
theorem seq_xc (h : a env s = some (.xc x fs env', s')) : sSeq a b env s = some (.xc x fs env', s') := by
  unfold sSeq
  rw [h]
theorem seq_nx (h : a env s = some (.nx env', s')) : sSeq a b env s = b env' s' := by
  unfold sSeq
  rw [h]
theorem ret_rt {m : LE → M D} (h : m env s = .ok d s') : sRet m env s = some (.rt d, s') := sE_ok h rfl
theorem ret_xc {m : LE → M D} (h : m env s = .exc x fs s') : sRet m env s = some (.xc x fs env, s') := sE_exc h
theorem sif_t {t : LE → M Bool} (h : t env s = .ok true s1) : sIf t a b env s = a env s1 := sE_ok h rfl
theorem sif_f {t : LE → M Bool} (h : t env s = .ok false s1) : sIf t a b env s = b env s1 := sE_ok h rfl
end
/-! ### ready -/
/-- the first that is no step -/
def bad (ds : List D) : List D := ds.filter fun d => !stepD d
def Chk (ds : List D) : Prop := ∀ d ∈ ds, m_is_step [d] = pure (.bl (stepD d))
theorem ready_loop (s : S) : ∀ (ds : List D), Chk ds → ∀ (env : LE), env.length = 8 →
    (bad ds = [] → Wp (forM' (gN 7) b_ready_L1 ds) env s fun e t => t = s ∧ e[6]? = env[6]?) ∧
    (∀ x r, bad ds = x :: r → ∃ env', forM' (gN 7) b_ready_L1 ds env s = some (.xc (.own 1) [("step", x)] env', s))
  | [], _, env, _ => ⟨fun _ => Wp.nil ⟨rfl, rfl⟩, fun x r e => by cases e⟩
  | d :: ds, h, env, hl => by
    have hd := h d (by simp)
    obtain ⟨i1, i2⟩ := ready_loop s ds (fun y hy => h y (List.mem_cons_of_mem _ hy)) (env.set 7 (some (.val d))) (by simpa using hl)
    have g7 : (env.set 7 (some (.val d)))[7]? = some (some (.val d)) := List.getElem?_set_self (by omega)
    have g6 : (env.set 7 (some (.val d)))[6]? = env[6]? := List.getElem?_set_ne (by decide)
    have a1 : aCons (eVar 7) aNil (env.set 7 (some (.val d))) s = .ok [d] s := aCons_ok (eVar_ok g7) aNil_ok
    cases hs : stepD d with
    | true =>
      have eb : bad (d :: ds) = bad ds := by simp [bad, hs]
      rw [eb]
      have c1 : eCall 1 m_check_step [] (aCons (eVar 7) aNil) (env.set 7 (some (.val d))) s = .ok .non s := eCall_ok a1 rfl (by rw [List.append_nil, check_good (by rw [hd, hs])]; rfl)
      refine ⟨fun e => Wp.cons rfl (Wp.expr c1 ((i1 e).imp fun e t q => ⟨q.1, q.2.trans g6⟩)), fun x r e => ?_⟩
      obtain ⟨env', q⟩ := i2 x r e
      refine ⟨env', ?_⟩
      show (match b_ready_L1 (env.set 7 (some (.val d))) s with
        | some (.nx e, s') => forM' (gN 7) b_ready_L1 ds e s'
        | some (.ct e, s') => forM' (gN 7) b_ready_L1 ds e s'
        | some (.bk e, s') => some (.nx e, s')
        | r => r) = _
      rw [show b_ready_L1 (env.set 7 (some (.val d))) s = some (.nx (env.set 7 (some (.val d))), s) from sE_ok c1 rfl]
      exact q
    | false =>
      have eb : bad (d :: ds) = d :: bad ds := by simp [bad, hs]
      rw [eb]
      refine ⟨fun e => (by cases e), fun x r e => ?_⟩
      cases e
      refine ⟨env.set 7 (some (.val d)), ?_⟩
      have c1 : eCall 1 m_check_step [] (aCons (eVar 7) aNil) (env.set 7 (some (.val d))) s = .exc (.own 1) [("step", d)] s := M.bind_to a1 (by
        show m_check_step [d] s = _
        rw [check_bad (by rw [hd, hs])]
        rfl)
      show (match b_ready_L1 (env.set 7 (some (.val d))) s with
        | some (.nx e, s') => forM' (gN 7) b_ready_L1 ds e s'
        | some (.ct e, s') => forM' (gN 7) b_ready_L1 ds e s'
        | some (.bk e, s') => some (.nx e, s')
        | r => r) = _
      rw [show b_ready_L1 (env.set 7 (some (.val d))) s = some (.xc (.own 1) [("step", d)] (env.set 7 (some (.val d))), s) from sE_exc c1]
def due (a b c t l : D) : List D := [.tup [.str "tells", a, b, t], .tup [.str "answers", a, c, l], .tup [.str "on", a]]
def rdE : LE → M D := eFrz (nLst (aCons (eTup (aCons (eK (.str "tells")) (aCons (eVar 0) (aCons (eVar 1) (aCons (eVar 3) aNil))))) (aCons (eTup (aCons (eK (.str "answers")) (aCons (eVar 0) (aCons (eVar 2) (aCons (eVar 5) aNil))))) (aCons (eTup (aCons (eK (.str "on")) (aCons (eVar 0) aNil))) aNil))))
theorem rdy_ok {a b c t q l : D} {nb : Bool} (hq : oIsN q .non = pure (.bl nb)) (hl : l = if nb = true then t else q) (hc : Chk (due a b c t l)) (s : S) :
    (bad (due a b c t l) = [] → m_ready [a, b, c, t, q] s = .ok (.lst (due a b c t l)) s) ∧ (∀ x r, bad (due a b c t l) = x :: r → m_ready [a, b, c, t, q] s = .exc (.own 1) [("step", x)] s) := by
  have e0 : m_ready [a, b, c, t, q] = runS (sSeq (sFor (DL.iItems (eVar 6)) (gN 7) b_ready_L1) (sRet (eVar 6))) [some (.val a), some (.val b), some (.val c), some (.val t), some (.val q), some (.val l), some (.val (.lst (due a b c t l))), none] := by
    unfold m_ready b_ready
    rw [mFn_run, runS_set, eIf_p (a := nb) (x := l) (tOf_p (eBin_p (x := q) (y := .non) rfl rfl hq)) (fun h => by rw [hl, h]; rfl) (fun h => by rw [hl, h]; rfl), bind_pure']
    rw [runS_set]
    show (eFrz _ [some (.val a), some (.val b), some (.val c), some (.val t), some (.val q), some (.val l), none, none] >>= _) = _
    rfl
  obtain ⟨i1, i2⟩ := ready_loop s (due a b c t l) hc [some (.val a), some (.val b), some (.val c), some (.val t), some (.val q), some (.val l), some (.val (.lst (due a b c t l))), none] rfl
  rw [e0]
  refine ⟨fun e => ?_, fun x r e => ?_⟩
  · obtain ⟨d, s', k, rfl, rfl⟩ := run_wpE (n := sRet (eVar 6)) (P := fun d S => d = .lst (due a b c t l) ∧ S = s) (Wp.for (b := b_ready_L1) (g := gN 7) (mi := DL.iItems (eVar 6)) (ds := due a b c t l) (s' := s) rfl ((i1 e).imp fun e t q => ⟨_, t, runS_ret_ok (eVar_ok q.2), rfl, q.1⟩))
    exact k
  · obtain ⟨env', k⟩ := i2 x r e
    exact run_xc (sE_ok (a := due a b c t l) (s' := s) rfl k)
/-! ### what the law is told -/
end Lw
set_option Elab.async false
set_option linter.all false
set_option maxRecDepth 100000
set_option maxHeartbeats 4000000
namespace Lw
open PySem L2 DL
/-! ### the parts -/
structure Pb (d : D) : Prop where
  ok : okE d
  nice : d.nice = true
  nx : d.nox = true
structure Pt (d : D) : Prop where
  ok : okE d
  gd : GD 31 201 d
  nx : d.nox = true
theorem Pb.pt {d : D} (h : Pb d) : Pt d := ⟨h.ok, (GD.of_nice h.nice).mono (by decide) (by decide), h.nx⟩
theorem Pb.word {z : Str} (h : isW z) : Pb (.str z) := ⟨(El.word h).ok, (El.word h).nice, rfl⟩
theorem Pb.non : Pb .non := ⟨El.non.ok, El.non.nice, rfl⟩
theorem Pb.int {i : Int} (h : i.natAbs < 10 ^ 12) : Pb (.int i) := ⟨(El.int h).ok, (El.int h).nice, rfl⟩
theorem Pb.one {d : D} (h : Pb d) : Pt (.tup [d]) := ⟨⟨⟨rfl, fun ds e => by
    cases e
    exact ⟨by simp, fun x hx => by
      have : x = d := by simpa using hx
      rw [this]; exact ⟨h.ok.w, h.nice⟩⟩⟩, ⟨rfl, fun y e => by cases e⟩⟩, (GD.tup (m := 30) (w := 200) fun x hx => by
    have : x = d := by simpa using hx
    rw [this]; exact GD.of_nice h.nice).mono (by decide) (by simp), by
    show (d.nox && true) = true
    rw [h.nx]
    rfl⟩
def odds : List D := [.non, .bl true, .int 0, .int 1000000001, .str "", .str "A", .tup [], .lst [.str "a"], .str "abcdefghi", .int 5, .str "b1"]
theorem odds_all : odds.all (fun d => okEb d && (d.nice && d.nox)) = true := by kernel_rfl
theorem Pb.odd {d : D} (h : d ∈ odds) : Pb d := by
  have := List.all_eq_true.mp odds_all d h
  simp only [Bool.and_eq_true] at this
  exact ⟨okEb_ok this.1, this.2.1, this.2.2⟩
theorem pbW (z : Str) (h : ((decide (1 ≤ (cs z).length) && decide ((cs z).length ≤ 8)) && (cs z).all fun c => decide (97 ≤ c) && decide (c ≤ 122)) = true) : Pb (.str z) := Pb.word (word_of z h)
section
variable {a c t : D}
structure Tp (d : D) : Prop where
  ex : ∃ ds, d = .tup ds ∧ (∀ x ∈ ds, Pt x) ∧ ds.length ≤ 4
theorem Tp.chk {d : D} (h : Tp d) : m_is_step [d] = pure (.bl (stepD d)) := by
  obtain ⟨ds, rfl, k, _⟩ := h.ex
  exact is_step_tup fun x hx => (k x hx).ok
theorem Tp.gd {d : D} (h : Tp d) : GD 32 808 d := by
  obtain ⟨ds, rfl, k, l⟩ := h.ex
  refine (GD.tup fun x hx => (k x hx).gd).mono (Nat.le_refl _) ?_
  have : ds.length * 202 ≤ 4 * 202 := Nat.mul_le_mul_right _ l
  omega
theorem nox_all : ∀ {ds : List D}, (∀ x ∈ ds, x.nox = true) → noxL ds = true
  | [], _ => rfl
  | d :: r, h => by
    show (d.nox && noxL r) = true
    rw [h d (by simp), nox_all fun x hx => h x (List.mem_cons_of_mem _ hx)]
    rfl
theorem Tp.nx {d : D} (h : Tp d) : d.nox = true := by
  obtain ⟨ds, rfl, k, l⟩ := h.ex
  exact nox_all fun x hx => (k x hx).nx
abbrev due1 (a c t : D) : List D := due a (.tup [a]) c t t
theorem due_tp (ha : Pb a) (hc : Pb c) (ht : Pb t) : ∀ d ∈ due1 a c t, Tp d := by
  have all4 : ∀ w x y z : D, Pt w → Pt x → Pt y → Pt z → Tp (.tup [w, x, y, z]) := fun w x y z h1 h2 h3 h4 => ⟨_, rfl, fun d hd => by
    simp only [List.mem_cons, List.not_mem_nil, or_false] at hd
    rcases hd with rfl | rfl | rfl | rfl <;> assumption, by simp⟩
  have all2 : ∀ w x : D, Pt w → Pt x → Tp (.tup [w, x]) := fun w x h1 h2 => ⟨_, rfl, fun d hd => by
    simp only [List.mem_cons, List.not_mem_nil, or_false] at hd
    rcases hd with rfl | rfl <;> assumption, by simp⟩
  intro d hd
  simp only [due1, due, List.mem_cons, List.not_mem_nil, or_false] at hd
  rcases hd with rfl | rfl | rfl
  · exact all4 _ _ _ _ (pbW _ (by kernel_rfl)).pt ha.pt ha.one ht.pt
  · exact all4 _ _ _ _ (pbW _ (by kernel_rfl)).pt ha.pt hc.pt ht.pt
  · exact all2 _ _ (pbW _ (by kernel_rfl)).pt ha.pt
theorem bad_mem {ds : List D} {d : D} (h : d ∈ bad ds) : d ∈ ds := (List.mem_filter.mp h).1
abbrev one4 (z : Str) (v : Option Str) (i : Int) : List Stp := [.par [z] i, .tell z [z] i, .ans z v i, .onf true z]
theorem parts_of (ha : Pb a) (hc : Pb c) (ht : Pb t) (h : bad (due1 a c t) = []) :
    ∃ (z : Str) (v : Option Str) (i : Int), a = .str z ∧ c = optS v ∧ t = .int i ∧ (∀ st ∈ one4 z v i, StG st) := by
  have tp := due_tp ha hc ht
  have all : ∀ d ∈ due1 a c t, stepD d = true := fun d hd => by
    cases e : stepD d with
    | true => rfl
    | false =>
      have : d ∈ bad (due1 a c t) := List.mem_filter.mpr ⟨hd, by simp [e]⟩
      rw [h] at this
      cases this
  have s1' : (wordD a && (setD (.tup [a]) && timeD t)) = true := all (.tup [.str "tells", a, .tup [a], t]) (by simp [due1, due])
  have s2' : (wordD a && (valueD c && timeD t)) = true := all (.tup [.str "answers", a, c, t]) (by simp [due1, due])
  simp only [Bool.and_eq_true] at s1' s2'
  obtain ⟨z, rfl, hz⟩ := word_inv s1'.1
  obtain ⟨i, rfl⟩ := time_inv s1'.2.2
  obtain ⟨v, rfl⟩ := value_inv s2'.2.1
  have so : SetOk [z] := ⟨fun y hy => by
    have : y = z := by simpa using hy
    rw [this]; exact hz, rfl, by simp⟩
  have pP : m_is_step [(Stp.par [z] i).d] = pure (.bl true) := by
    refine (is_step_tup (ds := [.str "parent", .tup [.str z], .int i]) fun d hd => ?_).trans ?_
    · simp only [List.mem_cons, List.not_mem_nil, or_false] at hd
      rcases hd with rfl | rfl | rfl
      · exact (pbW _ (by kernel_rfl)).ok
      · exact ha.one.ok
      · exact ht.ok
    · show (pure (D.bl (setD (.tup [.str z]) && timeD (.int i))) : M D) = _
      rw [s1'.2.1, s1'.2.2]
      rfl
  refine ⟨z, v, i, rfl, rfl, rfl, fun st hst => ?_⟩
  simp only [one4, List.mem_cons, List.not_mem_nil, or_false] at hst
  have is : ∀ d ∈ due1 (.str z) (optS v) (.int i), m_is_step [d] = pure (.bl true) := fun d hd => by rw [(tp d hd).chk, all d hd]
  rcases hst with rfl | rfl | rfl | rfl
  · exact ⟨so, pP⟩
  · exact ⟨⟨hz, so⟩, is _ (by simp [due1, due, Stp.d])⟩
  · exact ⟨hz, is _ (by simp [due1, due, Stp.d])⟩
  · exact ⟨hz, is _ (by simp [due1, due, Stp.d, onS])⟩
theorem names_one {z : Str} {v : Option Str} {i : Int} : (namesOf (one4 z v i)).length < 3000 ∧ srtS (allS [] (namesOf (one4 z v i))) = [z] := by
  have ln : ∀ st : Stp, st.names.length ≤ st.src.length := fun st => by
    unfold Stp.names
    rw [(srtS_perm _).length_eq]
    have := allS_len st.src []
    simpa using this
  have l1 := ln (Stp.par [z] i)
  have l2 := ln (Stp.tell z [z] i)
  have l3 := ln (Stp.ans z v i)
  have l4 := ln (Stp.onf true z)
  simp only [Stp.src, List.length_cons, List.length_nil] at l1 l2 l3 l4
  refine ⟨by simp only [one4, namesOf, List.flatMap_cons, List.flatMap_nil, List.length_append, List.length_nil]; omega, ?_⟩
  have mem : ∀ st : Stp, ∀ x, x ∈ st.names ↔ x ∈ st.src := fun st x => by
    unfold Stp.names
    rw [(srtS_perm _).mem_iff, allS_mem]
    simp
  have sub : ∀ x, x ∈ srtS (allS [] (namesOf (one4 z v i))) ↔ x = z := fun x => by
    rw [(srtS_perm _).mem_iff, allS_mem]
    simp only [namesOf, one4, List.flatMap_cons, List.flatMap_nil, List.mem_append, mem, Stp.src, List.mem_cons, List.not_mem_nil, or_false, or_self, false_or]
  have nd : (srtS (allS [] (namesOf (one4 z v i)))).Nodup := (srtS_perm _).nodup_iff.mpr (allS_nodup _ _ List.nodup_nil)
  generalize srtS (allS [] (namesOf (one4 z v i))) = l at sub nd
  have le := List.Nodup.length_le_of_subset (l₂ := [z]) nd fun x hx => by rw [(sub x).mp hx]; simp
  have mz := (sub z).mpr rfl
  match l, le, mz with
  | [y], _, mz =>
    have : z = y := by simpa using mz
    rw [this]
/-! ### a world of one, made -/
theorem one_ok (ha : Pb a) (hc : Pb c) (ht : Pb t) (s : S) :
    (bad (due1 a c t) = [] → m_World_of_one [a, c, t] s = .ok (.loc s.length) (ws s (.tup (.tup [.str "parent", .tup [a], t] :: due1 a c t)))) ∧ (∀ x r, bad (due1 a c t) = x :: r → m_World_of_one [a, c, t] s = .exc (.own 1) [("step", x)] s) := by
  have tp := due_tp ha hc ht
  obtain ⟨r1, r2⟩ := rdy_ok (a := a) (b := .tup [a]) (c := c) (t := t) (q := .non) (l := t) (nb := true) rfl rfl (fun d hd => (tp d hd).chk) s
  have e0 : m_World_of_one [a, c, t] = (m_ready [a, .tup [a], c, t, .non] >>= fun d => runS (sRet (eMakeS 5 0 m_World_init (aCons (eTup (aCons (eK (.str "parent")) (aCons (eTup (aCons (eVar 0) aNil)) (aCons (eVar 2) aNil)))) (aStar (eVar 3) aNil)))) [some (.val a), some (.val c), some (.val t), some (.val d)]) := by
    unfold m_World_of_one b_World_of_one
    rw [mFn_run, runS_set]
    rfl
  rw [e0]
  refine ⟨fun e => ?_, fun x r e => M.bind_exc (r2 x r e)⟩
  refine M.bind_to (r1 e) (runS_ret_ok ?_)
  obtain ⟨z, v, i, rfl, rfl, rfl, sg⟩ := parts_of ha hc ht e
  obtain ⟨n1, n2⟩ := names_one (z := z) (v := v) (i := i)
  have e1 : aCons (eTup (aCons (eK (.str "parent")) (aCons (eTup (aCons (eVar 0) aNil)) (aCons (eVar 2) aNil)))) (aStar (eVar 3) aNil) [some (.val (.str z)), some (.val (optS v)), some (.val (.int i)), some (.val (.lst (due1 (.str z) (optS v) (.int i))))] s = .ok ((one4 z v i).map Stp.d) s := rfl
  refine M.bind_to e1 ?_
  show ((guardM (decide (0 ≤ ((one4 z v i).map Stp.d).length) && szOk ((one4 z v i).map Stp.d).length) >>= fun _ => mkM 5 m_World_init (stD 0 ((one4 z v i).map Stp.d))) : M D) s = _
  rw [guard_true (show (decide (0 ≤ ((one4 z v i).map Stp.d).length) && szOk ((one4 z v i).map Stp.d).length) = true from rfl)]
  exact mkM_ok (init_ok sg (by simp) n1 (by rw [n2]; simp) rfl s)
theorem told_ok (ha : Pb a) (hc : Pb c) (ht : Pb t) (s : S) :
    (bad (due1 a c t) = [] → m__law_told [a, c, t] s = .ok (.lst [.str "world", .loc s.length]) (ws s (.tup (.tup [.str "parent", .tup [a], t] :: due1 a c t)))) ∧ (∀ x r, bad (due1 a c t) = x :: r → ∃ z, oRepr x = pure (.str z) ∧ Bd z ∧ m__law_told [a, c, t] s = .ok (.lst [.str "wrong", .str z]) s) := by
  have tp := due_tp ha hc ht
  obtain ⟨r1, r2⟩ := one_ok ha hc ht s
  have ask : eCallK 2 1 m_World_of_one (fun ds zs => ds ++ zs) (aCons (eVar 0) (aCons (eVar 1) aNil)) (aCons (eVar 2) aNil) [some (.val a), some (.val c), some (.val t), none] = m_World_of_one [a, c, t] := rfl
  have run : ∀ {b : SM} {env : LE} {d : D} {s' : S}, b env s = some (.rt d, s') → runS b env s = .ok d s' := fun {b env d s'} h => by
    unfold runS
    rw [h]
    rfl
  unfold m__law_told
  rw [mFn_run]
  show (_ → runS b__law_told [some (.val a), some (.val c), some (.val t), none] s = _) ∧ (∀ x r, _ → ∃ z, _ ∧ _ ∧ runS b__law_told [some (.val a), some (.val c), some (.val t), none] s = _)
  unfold b__law_told
  refine ⟨fun e => run ?_, fun x r e => ?_⟩
  · have k := r1 e
    rw [← ask] at k
    have q : sRet (eFrz (nLst (aCons (eK (.str "world")) (aCons (eCallK 2 1 m_World_of_one (fun ds zs => ds ++ zs) (aCons (eVar 0) (aCons (eVar 1) aNil)) (aCons (eVar 2) aNil)) aNil)))) [some (.val a), some (.val c), some (.val t), none] s = some (.rt (.lst [.str "world", .loc s.length]), ws s (.tup (.tup [.str "parent", .tup [a], t] :: due1 a c t))) :=
      ret_rt (eFrz_ok (M.bind_to (aCons_ok (x := .str "world") (s1 := s) rfl (aCons_ok k aNil_ok)) rfl))
    unfold sTryAs
    rw [q]
  · obtain ⟨z, h1, h2⟩ := (tp x (bad_mem (by rw [e]; simp))).gd.reprB (by decide) (by decide)
    have k := r2 x r e
    rw [← ask] at k
    have q : sRet (eFrz (nLst (aCons (eK (.str "world")) (aCons (eCallK 2 1 m_World_of_one (fun ds zs => ds ++ zs) (aCons (eVar 0) (aCons (eVar 1) aNil)) (aCons (eVar 2) aNil)) aNil)))) [some (.val a), some (.val c), some (.val t), none] s = some (.xc (.own 1) [("step", x)] [some (.val a), some (.val c), some (.val t), none], s) :=
      ret_xc (M.bind_exc (M.bind_exc (M.bind_to (a := .str "world") (s1 := s) rfl (M.bind_exc (M.bind_exc k)))))
    exact ⟨z, h1, h2, run (try_exc (mt := mt_InvalidStep) q rfl (eFrz_ok (M.bind_to (aCons_ok (x := .str "wrong") (s1 := s) rfl (aCons_ok (eB1_ok (s1 := s) (x := x) rfl (by rw [h1]; rfl)) aNil_ok)) rfl)) rfl)⟩
end
end Lw
set_option Elab.async false
set_option linter.all false
set_option maxRecDepth 100000
set_option maxHeartbeats 8000000
namespace Lw
open PySem L2 DL
/-! ### worlds told apart, their servers -/
section
variable {s : S} {w w2 m m2 : Nat} {B : D} {sts : List Stp}
theorem eq_ok (hw : s[w]? = some (some (.ins 5 [("first", B), ("said", .loc m)]))) (hm : s[m]? = some (some (.dct []))) (hw2 : s[w2]? = some (some (.ins 5 [("first", B), ("said", .loc m2)]))) (hm2 : s[m2]? = some (some (.dct [])))
    {d v : Nat} (g : GD d v B) (hd : d ≤ 64) : m_World_eq [.loc w, .loc w2] s = .ok (.bl true) s := by
  unfold m_World_eq b_World_eq
  rw [mFn_run]
  have eq : oEqS B B s = .ok (.bl true) s := by rw [g.eqSelf hd]; rfl
  refine runS_ret_ok (eAnd_ok (eIsC_ok (eVar_ok (d := .loc w2) rfl) hw2 rfl) (eAnd_ok (eBin_ok (fld_at (L := w) rfl hw rfl rfl) (eFld_ok (eVar_ok (d := .loc w2) rfl) hw2 rfl rfl) eq) (eBin_ok (fld_at (L := w) rfl hw rfl rfl) (eFld_ok (eVar_ok (d := .loc w2) rfl) hw2 rfl rfl) ?_)))
  show (oEqDD (.loc m) (.loc m2)) s = _
  have r1 : dctM (.loc m) s = .ok [] s := by
    show (match s[m]? with | some (some (.dct kvs)) => R.ok kvs s | _ => R.stuck) = _
    simp only [hm]
  have r2 : dctM (.loc m2) s = .ok [] s := by
    show (match s[m2]? with | some (some (.dct kvs)) => R.ok kvs s | _ => R.stuck) = _
    simp only [hm2]
  unfold oEqDD
  exact M.bind_to r1 (M.bind_to r2 rfl)
theorem steps_ok (hw : s[w]? = some (some (.ins 5 [("first", .tup (sts.map Stp.d)), ("said", .loc m)]))) (hm : s[m]? = some (some (.dct []))) : m_World_all_steps [.loc w] s = .ok (.lst (sts.map Stp.d)) s := by
  unfold m_World_all_steps b_World_all_steps
  rw [mFn_run, runS_own]
  have hne : w ≠ m := fun e => by subst e; rw [hw] at hm; cases hm
  have hw2 : (s.set m (some (.lk [])))[w]? = some (some (.ins 5 [("first", .tup (sts.map Stp.d)), ("said", .loc m)])) := by rw [List.getElem?_set_ne (Ne.symm hne)]; exact hw
  refine M.bind_to (a := .lst (sts.map Stp.d)) (s1 := s) (eBN_ok (fld_at (L := w) rfl hw rfl rfl) rfl) ?_
  show runS _ [some (.val (.loc w)), some (.own (.lst (sts.map Stp.d))), none] s = _
  have f1 : eFld fl_said "said" (eVar 0) [some (.val (.loc w)), some (.own (.lst (sts.map Stp.d))), none] s = .ok (.loc m) s := fld_at (L := w) rfl hw rfl rfl
  have f2 : iValsD (eFld fl_said "said" (eVar 0)) [some (.val (.loc w)), some (.own (.lst (sts.map Stp.d))), none] (s.set m (some (.lk []))) = .ok [] (s.set m (some (.lk []))) := M.bind_to (fld_at (L := w) rfl hw2 rfl rfl) (M.bind_to (lk_ok (set_at hm)) rfl)
  have lkd : sLock (eFld fl_said "said" (eVar 0)) (sFor (iValsD (eFld fl_said "said" (eVar 0))) (gN 2) b_World_all_steps_L1) [some (.val (.loc w)), some (.own (.lst (sts.map Stp.d))), none] s = some (.nx [some (.val (.loc w)), some (.own (.lst (sts.map Stp.d))), none], s) := by
    unfold sLock
    rw [f1]
    simp only [hm]
    rw [show sFor (iValsD (eFld fl_said "said" (eVar 0))) (gN 2) b_World_all_steps_L1 [some (.val (.loc w)), some (.own (.lst (sts.map Stp.d))), none] (s.set m (some (.lk []))) = some (.nx [some (.val (.loc w)), some (.own (.lst (sts.map Stp.d))), none], s.set m (some (.lk []))) from sE_ok f2 rfl]
    show unlS m _ _ = _
    unfold unlS
    simp only [set_at hm]
    rw [set_back hm]
  unfold runS
  rw [seq_nx lkd]
  rfl
theorem servers_okW (hw : s[w]? = some (some (.ins 5 [("first", .tup (sts.map Stp.d)), ("said", .loc m)]))) (hm : s[m]? = some (some (.dct []))) (h : ∀ st ∈ sts, StG st) (hl : (namesOf sts).length < 3000) : m_World_servers [.loc w] s = .ok (.lst ((srtS (allS [] (namesOf sts))).map .str)) s := by
  unfold m_World_servers b_World_servers
  rw [mFn_run]
  exact runS_ret_ok (eCall1_ok (eMeth_ok (eVar_ok rfl) hw rfl aNil_ok rfl (steps_ok hw hm)) (named_ok h hl (.inr rfl) s))
end
end Lw
set_option Elab.async false
set_option linter.all false
set_option maxRecDepth 100000
set_option maxHeartbeats 8000000
namespace Lw
open PySem L2 DL
/-! ### a turn -/
theorem Wp.setixO {i : Nat} {mi me : LE → M D} {env : LE} {s s1 s2 : S} {d : D} {ds : List D} {k : Int} {j : Nat} {Q : LE → S → Prop} (he : me env s = .ok d s1) (hi : env[i]? = some (some (.own (.lst ds)))) (hk : mi env s1 = .ok (.int k) s2) (hj : ixN ds.length k = some j) (q : Q (env.set i (some (.own (.lst (ds.set j d))))) s2) : Wp (sSetIxO i mi me) env s Q := by
  refine Wp.sE he ⟨env.set i (some (.own (.lst (ds.set j d)))), s2, ?_, q⟩
  simp only [hi]
  unfold DL.sE
  rw [hk]
  simp only [hj]
  rfl
theorem Wp.asgL {n : Nat} {m : LE → M D} {g : GMs} {env env' : LE} {s s1 : S} {ds : List D} {Q : LE → S → Prop} (h : m env s = .ok (.lst ds) s1) (hl : ds.length = n) (hg : g ds env = some env') (q : Q env' s1) : Wp (sAsgL n m g) env s Q := by
  refine Wp.sE h (Wp.sE (x := ds) (s' := s1) rfl ⟨env', s1, ?_, q⟩)
  show (if ds.length = n then (g ds env).map (fun env' => (Fl.nx env', s1)) else none) = _
  rw [if_pos hl, hg]
  rfl
theorem eCallI_ok {k n i : Nat} {m : List D → M D} {mo : LE → M D} {ma : LE → M (List D)} {env : LE} {ds : List D} {fs : List (Str × D)} {s s1 s2 s3 : S} {z : D} (h : mo env s = .ok (.loc i) s1) (hs : s1[i]? = some (some (.ins k fs))) (ha : ma env s1 = .ok ds s2) (hs2 : s2[i]? = some (some (.ins k fs))) (hn : (D.loc i :: ds).length = n) (r : m (.loc i :: ds) s2 = .ok z s3) : eCallI k n m mo ma env s = .ok z s3 := by
  refine M.bind_to h (M.bind_to (insM_ok hs) (M.bind_to ha (M.bind_to (insM_ok hs2) ?_)))
  show ((guardM (decide (k = k)) >>= fun _ => guardM (decide ((D.loc i :: ds).length = n)) >>= fun _ => m (.loc i :: ds)) : M D) s2 = _
  rw [guard_true (decide_eq_true rfl), guard_true (decide_eq_true hn)]
  exact r
theorem Wp.app {i : Nat} {m : LE → M D} {env : LE} {s s' : S} {ds : List D} {d : D} {Q : LE → S → Prop} (hi : env[i]? = some (some (.own (.lst ds)))) (h : m env s = .ok d s') (hz : ds.length ≤ 1000000) (q : Q (env.set i (some (.own (.lst (ds ++ [d]))))) s') : Wp (sApp i m) env s Q := by
  refine ⟨env.set i (some (.own (.lst (ds ++ [d])))), s', ?_, q⟩
  unfold sApp
  rw [hi]
  refine sE_ok h ?_
  rw [show szOk ds.length = true from decide_eq_true hz]
  rfl
abbrev e15 (ns : List Int) (k n : D) (zs : List Str) (xs : List (Option SD)) : LE := some (.val (.scr ns)) :: some (.val (.lst odds)) :: some (.val k) :: some (.val n) :: some (.val (.lst (zs.map .str))) :: xs
noncomputable def lastT : SM := (sIf (tOf (eBin oNeS (eVar 12) (eFrz (nLst aNil)))) (sIf (tOf (eBin oNeS (eVar 13) (eFrz (nLst (aCons (eK (.str "wrong")) (aCons (eB (on1 oRepr) (aCons (eIx (eVar 12) (eK (.int 0))) aNil)) aNil)))))) (sRet (eK (.bl false))) sNext) (sSeq (sIf (tOf (eBin (oNeTI 5 m_World_eq) (eVar 13) (eFrz (nLst (aCons (eK (.str "world")) (aCons (eCall 1 m_World_of [] (aCons (eBin oAdd (eFrz (nLst (aCons (eTup (aCons (eK (.str "parent")) (aCons (eTup (aCons (eVar 7) aNil)) (aCons (eVar 9) aNil)))) aNil))) (eVar 10)) aNil)) aNil)))))) (sRet (eK (.bl false))) sNext) (sSeq (sFor (iItems (eFrz (nLst (aCons (eNeg (eK (.int 5))) (aCons (eK (.int 0)) (aCons (eBin oPow (eK (.int 10)) (eK (.int 9))) aNil)))))) (gN 14) b_law_L1) (sIf (tOrM (tOf (eBin oNeS (eMeth 5 1 "moments" m_World_moments [] (eIx (eVar 13) (eK (.int 1))) aNil) (eFrz (nLst aNil)))) (tOf (eBin oNeS (eMeth 5 1 "servers" m_World_servers [] (eIx (eVar 13) (eK (.int 1))) aNil) (eFrz (nLst (aCons (eVar 7) aNil)))))) (sRet (eK (.bl false))) sNext))))
noncomputable def turnT : SM := (sSeq (sFrz 6 (sAsgL 3 (eVar 6) (gsCons (gN 7) (gsCons (gN 8) (gsCons (gN 9) gsNil))))) (sSeq (sSet 10 (eFrz (nLst (aCons (eTup (aCons (eK (.str "tells")) (aCons (eVar 7) (aCons (eTup (aCons (eVar 7) aNil)) (aCons (eVar 9) aNil))))) (aCons (eTup (aCons (eK (.str "answers")) (aCons (eVar 7) (aCons (eVar 8) (aCons (eVar 9) aNil))))) (aCons (eTup (aCons (eK (.str "on")) (aCons (eVar 7) aNil))) aNil)))))) (sSeq (sOwn 12 (nLc (iItems (eVar 10)) (gN 11) (tNotM (tOf (eCall 1 m_is_step [] (aCons (eVar 11) aNil)))) (eVar 11) [11])) (sSeq (sFrz 12 (sSet 13 (eCall 3 m__law_told [] (aCons (eVar 7) (aCons (eVar 8) (aCons (eVar 9) aNil)))))) (sIf (tOf (eBin oNeS (eVar 12) (eFrz (nLst aNil)))) (sIf (tOf (eBin oNeS (eVar 13) (eFrz (nLst (aCons (eK (.str "wrong")) (aCons (eB (on1 oRepr) (aCons (eIx (eVar 12) (eK (.int 0))) aNil)) aNil)))))) (sRet (eK (.bl false))) sNext) (sSeq (sIf (tOf (eBin (oNeTI 5 m_World_eq) (eVar 13) (eFrz (nLst (aCons (eK (.str "world")) (aCons (eCall 1 m_World_of [] (aCons (eBin oAdd (eFrz (nLst (aCons (eTup (aCons (eK (.str "parent")) (aCons (eTup (aCons (eVar 7) aNil)) (aCons (eVar 9) aNil)))) aNil))) (eVar 10)) aNil)) aNil)))))) (sRet (eK (.bl false))) sNext) (sSeq (sFor (iItems (eFrz (nLst (aCons (eNeg (eK (.int 5))) (aCons (eK (.int 0)) (aCons (eBin oPow (eK (.int 10)) (eK (.int 9))) aNil)))))) (gN 14) b_law_L1) (sIf (tOrM (tOf (eBin oNeS (eMeth 5 1 "moments" m_World_moments [] (eIx (eVar 13) (eK (.int 1))) aNil) (eFrz (nLst aNil)))) (tOf (eBin oNeS (eMeth 5 1 "servers" m_World_servers [] (eIx (eVar 13) (eK (.int 1))) aNil) (eFrz (nLst (aCons (eVar 7) aNil)))))) (sRet (eK (.bl false))) sNext))))))))
theorem turn_split : turnT = sSeq (sFrz 6 (sAsgL 3 (eVar 6) (gsCons (gN 7) (gsCons (gN 8) (gsCons (gN 9) gsNil))))) (sSeq (sSet 10 (eFrz (nLst (aCons (eTup (aCons (eK (.str "tells")) (aCons (eVar 7) (aCons (eTup (aCons (eVar 7) aNil)) (aCons (eVar 9) aNil))))) (aCons (eTup (aCons (eK (.str "answers")) (aCons (eVar 7) (aCons (eVar 8) (aCons (eVar 9) aNil))))) (aCons (eTup (aCons (eK (.str "on")) (aCons (eVar 7) aNil))) aNil)))))) (sSeq (sOwn 12 (nLc (iItems (eVar 10)) (gN 11) (tNotM (tOf (eCall 1 m_is_step [] (aCons (eVar 11) aNil)))) (eVar 11) [11])) (sSeq (sFrz 12 (sSet 13 (eCall 3 m__law_told [] (aCons (eVar 7) (aCons (eVar 8) (aCons (eVar 9) aNil)))))) lastT))) := rfl
theorem L2_split : b_law_L2 = sSeq (sOwn 6 (nLst (aCons (eIx (eVar 4) (eK (.int 0))) (aCons (eCall 2 m__law_choose [] (aCons (eVar 3) (aCons (eFrz (nLst (aCons (eK .non) (aCons (eIx (eVar 4) (eK (.int 0))) (aCons (eIx (eVar 4) (eK (.int 1))) aNil))))) aNil))) aNil)))) (sSeq (sApp 6 (eCall 2 m__law_choose [] (aCons (eVar 3) (aCons (eFrz (nLst (aCons (eK (.int 1)) (aCons (eK (.int 2)) (aCons (eBin oPow (eK (.int 10)) (eK (.int 9))) (aCons (eBin oAdd (eK (.int 1)) (eCall 2 m__law_draw [] (aCons (eVar 3) (aCons (eBin oPow (eK (.int 10)) (eK (.int 9))) aNil)))) aNil)))))) aNil)))) (sSeq (sIf (tOf (eBin oEqS (eCall 2 m__law_draw [] (aCons (eVar 3) (aCons (eK (.int 2)) aNil))) (eK (.int 0)))) (sSetIxO 6 (eCall 2 m__law_draw [] (aCons (eVar 3) (aCons (eK (.int 3)) aNil))) (eCall 2 m__law_choose [] (aCons (eVar 3) (aCons (eVar 1) aNil)))) sNext) turnT)) := rfl
def lawI : LE → M (List D) := iRg1 (eB (on2 oMax2) (aCons (eK (.int 1)) (aCons (eB (on2 oMin2) (aCons (eK (.int 12)) (aCons (eB (on1 oLen) (aCons (eVar 0) aNil)) aNil))) aNil)))
theorem lawI_ok (ns : List Int) {env : LE} (h0 : env[0]? = some (some (.val (.scr ns)))) (s : S) : ∃ z : Int, z ≤ 12 ∧ lawI env s = .ok (rangeD 0 z) s := by
  obtain ⟨u, hu, eu⟩ : ∃ u : Int, u ≤ 12 ∧ (if (((ns.map D.int).length : Nat) : Int) < 12 then (((ns.map D.int).length : Nat) : Int) else 12) = u := ⟨_, by split <;> omega, rfl⟩
  obtain ⟨z, hz, ez⟩ : ∃ z : Int, (1 ≤ z ∧ z ≤ 12) ∧ (if u > 1 then u else 1) = z := ⟨_, by split <;> omega, rfl⟩
  refine ⟨z, hz.2, ?_⟩
  have e1 : eB (on2 oMin2) (aCons (eK (.int 12)) (aCons (eB (on1 oLen) (aCons (eVar 0) aNil)) aNil)) env s = .ok (.int u) s := by
    refine eB2_ok (f := oMin2) (x := .int 12) (y := .int (ns.map D.int).length) (s1 := s) (s2 := s) rfl (eB1_ok (f := oLen) (x := .scr ns) (s1 := s) (eVar_ok h0) rfl) ?_
    rw [oMin2_int, eu]
    rfl
  have e2 : eB (on2 oMax2) (aCons (eK (.int 1)) (aCons (eB (on2 oMin2) (aCons (eK (.int 12)) (aCons (eB (on1 oLen) (aCons (eVar 0) aNil)) aNil))) aNil)) env s = .ok (.int z) s := by
    refine eB2_ok (f := oMax2) (x := .int 1) (y := .int u) (s1 := s) (s2 := s) rfl e1 ?_
    rw [oMax2_int, ez]
    rfl
  unfold lawI iRg1
  refine M.bind_to e2 ?_
  show ((optM (some z) : M Int) >>= fun j => guardM (rgOk j) >>= fun _ => (pure (rangeD 0 j) : M (List D))) s = _
  rw [opt_some, guard_true (by unfold rgOk; rw [decide_eq_true (by omega), decide_eq_true (by omega)] <;> rfl)]
  rfl
end Lw
set_option Elab.async false
set_option linter.all false
set_option maxRecDepth 100000
set_option maxHeartbeats 8000000
namespace Lw
open PySem L2 DL
theorem neTI_ok {i j k : Nat} {m : List D → M D} {p : Str} {s s' : S} {fs gs : List (Str × D)} (hi : s[i]? = some (some (.ins k fs))) (hj : s[j]? = some (some (.ins k gs))) (ne : i ≠ j) (r : m [.loc i, .loc j] s = .ok (.bl true) s') : oNeTI k m (.lst [.str p, .loc i]) (.lst [.str p, .loc j]) s = .ok (.bl false) s' := by
  show (guardM (decide (p = p) && !decide (i = j)) >>= fun _ => insM (.loc i) >>= fun a => insM (.loc j) >>= fun b => guardM (decide (a.1 = k) && decide (b.1 = k)) >>= fun _ => noX (m [.loc i, .loc j]) >>= fun r => asB r >>= fun t => guardM t >>= fun _ => (pure (.bl false) : M D)) s = _
  rw [guard_true (by rw [decide_eq_true rfl, decide_eq_false ne]; rfl)]
  refine M.bind_to (insM_ok hi) (M.bind_to (insM_ok hj) ?_)
  show ((guardM (decide (k = k) && decide (k = k)) >>= fun _ => noX (m [.loc i, .loc j]) >>= fun r => asB r >>= fun t => guardM t >>= fun _ => (pure (.bl false) : M D)) : M D) s = _
  rw [guard_true (by rw [decide_eq_true rfl]; rfl)]
  exact M.bind_to (noX_ok r) rfl
section
variable {ns : List Int} {k : D} {n : Nat} {zs : List Str} {a c t : D}
def In (ns : List Int) (k : D) (n : Nat) (zs : List Str) (e : LE) (s : S) : Prop := (∃ x5 x6 x7 x8 x9 x10 x11 x12 x13 x14, e = e15 ns k (.loc n) zs [x5, x6, x7, x8, x9, x10, x11, x12, x13, x14]) ∧ St n s
theorem st_app {s r : S} (h : St n s) : St n (s ++ r) := by
  obtain ⟨x, y, h1, h2, h3⟩ := h
  exact ⟨x, y, h1, h2, by rw [List.getElem?_append_left (List.getElem?_eq_some_iff.mp h3).1]; exact h3⟩
theorem at_app {s r : S} {j : Nat} {x : Option O} (h : s[j]? = some x) : (s ++ r)[j]? = some x := by
  rw [List.getElem?_append_left (List.getElem?_eq_some_iff.mp h).1]; exact h
theorem ws_w {s : S} {B : D} : (ws s B)[s.length]? = some (some (.ins 5 (wfs s.length B))) := by
  unfold ws
  rw [List.getElem?_append_right (Nat.le_refl _), Nat.sub_self]
  rfl
theorem ws_m {s : S} {B : D} : (ws s B)[s.length + 1]? = some (some (.dct [])) := by
  unfold ws
  rw [List.getElem?_append_right (by omega), show s.length + 1 - s.length = 1 by omega]
  rfl
theorem ten9 {env : LE} : eBin oPow (eK (.int 10)) (eK (.int 9)) env = pure (.int 1000000000) := by kernel_rfl
theorem ws_len {s : S} {B : D} : (ws s B).length = s.length + 2 := by
  unfold ws
  simp
/-- the answer of a world of one -/
abbrev ans1 (z : Str) (v : Option Str) (i : Int) : D := .tup [.tup [.tup [.str z], .int i], .tup [.tup [.str z, .tup [.str z], .int i, optS v, .int i]], .tup []]
theorem ans_gd {z : Str} {v : Option Str} {i : Int} (hz : Pb (.str z)) (hv : Pb (optS v)) (hi : Pb (.int i)) : GD 34 5000 (ans1 z v i) := by
  have r1 : GD 32 1010 (.tup [.str z, .tup [.str z], .int i, optS v, .int i]) := (GD.tup (m := 31) (w := 201) fun x hx => by
    simp only [List.mem_cons, List.not_mem_nil, or_false] at hx
    rcases hx with rfl | rfl | rfl | rfl | rfl
    · exact hz.pt.gd
    · exact hz.one.gd
    · exact hi.pt.gd
    · exact hv.pt.gd
    · exact hi.pt.gd).mono (by decide) (by simp)
  have r2 : GD 33 1011 (.tup [.tup [.str z, .tup [.str z], .int i, optS v, .int i]]) := (GD.tup fun x hx => by
    have : x = .tup [.str z, .tup [.str z], .int i, optS v, .int i] := by simpa using hx
    rw [this]; exact r1).mono (by decide) (by simp)
  have r3 : GD 32 1011 (.tup [.tup [.str z], .int i]) := (GD.tup (m := 31) (w := 201) fun x hx => by
    simp only [List.mem_cons, List.not_mem_nil, or_false] at hx
    rcases hx with rfl | rfl
    · exact hz.one.gd
    · exact hi.pt.gd).mono (by decide) (by simp)
  have r4 : GD 33 1011 (.tup []) := (GD.tup (m := 1) (w := 1) (ds := []) fun x hx => by cases hx).mono (by decide) (by simp)
  exact (GD.tup (m := 33) (w := 1011) fun x hx => by
    simp only [List.mem_cons, List.not_mem_nil, or_false] at hx
    rcases hx with rfl | rfl | rfl
    · exact r3.mono (by decide) (by decide)
    · exact r2
    · exact r4).mono (by decide) (by simp)
theorem last_bad {x : D} {r : List D} {z : Str} (ha : Pb a) (hc : Pb c) (ht : Pb t) (eb : bad (due1 a c t) = x :: r) (hz : oRepr x = pure (.str z)) (bz : Bd z) {s : S} (hs : St n s) (x5 x6 x11 x14 : Option SD) :
    Wp lastT (e15 ns k (.loc n) zs [x5, x6, some (.val a), some (.val c), some (.val t), some (.val (.lst (due1 a c t))), x11, some (.val (.lst (bad (due1 a c t)))), some (.val (.lst [.str "wrong", .str z])), x14]) s (In ns k n zs) := by
  have tp := due_tp ha hc ht
  have gn := (GD.nil (m := 32) (w := 808) (ds := bad (due1 a c t)) (fun d hd => (tp d (bad_mem hd)).gd) (by decide)).2
  unfold lastT
  have tst : tOf (eBin oNeS (eVar 12) (eFrz (nLst aNil))) (e15 ns k (.loc n) zs [x5, x6, some (.val a), some (.val c), some (.val t), some (.val (.lst (due1 a c t))), x11, some (.val (.lst (bad (due1 a c t)))), some (.val (.lst [.str "wrong", .str z])), x14]) s = .ok (!(bad (due1 a c t)).isEmpty) s := ok_pure (tOf_p (eBin_p (x := .lst (bad (due1 a c t))) (y := .lst []) rfl rfl gn))
  rw [eb] at tst
  rw [eb]
  refine Wp.if_t tst (Wp.pass (s' := s) (tOf_ok (eBin_ok (s1 := s) (s2 := s) (x := .lst [.str "wrong", .str z]) (y := .lst [.str "wrong", .str z]) rfl ?_ (by rw [ne_two (bd_ofString _) bz]; rfl))) ⟨⟨_, _, _, _, _, _, _, _, _, _, rfl⟩, hs⟩)
  have ix : eIx (eVar 12) (eK (.int 0)) (e15 ns k (.loc n) zs [x5, x6, some (.val a), some (.val c), some (.val t), some (.val (.lst (due1 a c t))), x11, some (.val (.lst (x :: r))), some (.val (.lst [.str "wrong", .str z])), x14]) = pure x := (eBin_of (x := .lst (x :: r)) (y := .int 0) rfl rfl).trans (by rw [oIx_lst, show atI (x :: r) (0 : Int) = some x from DL.atI_nat (k := 0) rfl, optM_some])
  have e2 := eB1_p (f := oRepr) ix hz
  exact eFrz_ok (M.bind_to (aCons_ok (x := .str "wrong") (s1 := s) rfl (aCons_ok (ok_pure e2) aNil_ok)) rfl)
theorem last_good {z : Str} {v : Option Str} {i : Int} (hz : Pb (.str z)) (hv : Pb (optS v)) (hi : Pb (.int i)) (eb : bad (due1 (.str z) (optS v) (.int i)) = []) (sg : ∀ st ∈ one4 z v i, StG st) {s : S} (hs : St n s) (x5 x6 x11 x14 : Option SD) :
    Wp lastT (e15 ns k (.loc n) zs [x5, x6, some (.val (.str z)), some (.val (optS v)), some (.val (.int i)), some (.val (.lst (due1 (.str z) (optS v) (.int i)))), x11, some (.val (.lst (bad (due1 (.str z) (optS v) (.int i))))), some (.val (.lst [.str "world", .loc s.length])), x14]) (ws s (.tup ((one4 z v i).map Stp.d))) (In ns k n zs) := by
  rw [eb]
  unfold lastT
  obtain ⟨n1, n2⟩ := names_one (z := z) (v := v) (i := i)
  have GE : ∀ y : Option SD, ∃ E, E = e15 ns k (.loc n) zs [x5, x6, some (.val (.str z)), some (.val (optS v)), some (.val (.int i)), some (.val (.lst (due1 (.str z) (optS v) (.int i)))), x11, some (.val (.lst [])), some (.val (.lst [.str "world", .loc s.length])), y] := fun y => ⟨_, rfl⟩
  refine Wp.if_f (s' := ws s (.tup ((one4 z v i).map Stp.d))) (ok_pure (tOf_p (eBin_p (x := .lst []) (y := .lst []) rfl rfl (by kernel_rfl)))) ?_
  -- the same world made again
  obtain ⟨E, hE⟩ := GE x14
  rw [← hE]
  have e1 : eBin oAdd (eFrz (nLst (aCons (eTup (aCons (eK (.str "parent")) (aCons (eTup (aCons (eVar 7) aNil)) (aCons (eVar 9) aNil)))) aNil))) (eVar 10) E = pure (.lst ((one4 z v i).map Stp.d)) := by
    rw [hE]
    exact eBin_p (x := .lst [.tup [.str "parent", .tup [.str z], .int i]]) (y := .lst (due1 (.str z) (optS v) (.int i))) rfl rfl (add_lst _ _ (by simp [due1, due]))
  have mk := of_ok sg (by simp) n1 (by rw [n2]; simp) rfl (ws s (.tup ((one4 z v i).map Stp.d)))
  have L2 : s.length ≠ (ws s (.tup ((one4 z v i).map Stp.d))).length := by rw [ws_len]; omega
  have tp := due_tp hz hv hi
  have gB : GD 33 4000 (.tup ((one4 z v i).map Stp.d)) := (GD.tup (m := 32) (w := 808) fun d hd => by
    have tpP : Tp (.tup [.str "parent", .tup [.str z], .int i]) := ⟨_, rfl, fun d hd => by
      simp only [List.mem_cons, List.not_mem_nil, or_false] at hd
      rcases hd with rfl | rfl | rfl
      · exact (pbW _ (by kernel_rfl)).pt
      · exact hz.one
      · exact hi.pt, by simp⟩
    have hd' : d ∈ (.tup [.str "parent", .tup [.str z], .int i] : D) :: due1 (.str z) (optS v) (.int i) := hd
    rcases List.mem_cons.mp hd' with rfl | hd'
    · exact tpP.gd
    · exact (tp d hd').gd).mono (by decide) (by simp)
  generalize hB : D.tup ((one4 z v i).map Stp.d) = B at mk L2 gB
  have w0 : (ws (ws s B) B)[s.length]? = some (some (.ins 5 (wfs s.length B))) := at_app ws_w
  have m0 : (ws (ws s B) B)[s.length + 1]? = some (some (.dct [])) := at_app ws_m
  have eqv := eq_ok (s := ws (ws s B) B) w0 m0 ws_w ws_m gB (by decide)
  refine Wp.seq (Wp.pass (s' := ws (ws s B) B) (tOf_ok (eBin_ok (x := .lst [.str "world", .loc s.length]) (y := .lst [.str "world", .loc (ws s B).length]) (s1 := ws s B) (s2 := ws (ws s B) B) (eVar_ok (by rw [hE]; rfl)) (eFrz_ok (M.bind_to (aCons_ok (x := .str "world") (s1 := ws s B) rfl (aCons_ok (eCall1_ok (ok_pure e1) mk) aNil_ok)) rfl)) (neTI_ok w0 ws_w L2 eqv))) ?_)
  -- asked thrice
  have gA := ans_gd hz hv hi
  refine Wp.seq (Wp.for (ds := [.int (-5), .int 0, .int 1000000000]) (s' := ws (ws s B) B) (by rw [hE]; kernel_rfl) (Wp.each (I := fun e t => (∃ y, e = e15 ns k (.loc n) zs [x5, x6, some (.val (.str z)), some (.val (optS v)), some (.val (.int i)), some (.val (.lst (due1 (.str z) (optS v) (.int i)))), x11, some (.val (.lst [])), some (.val (.lst [.str "world", .loc s.length])), y]) ∧ t[s.length]? = some (some (.ins 5 (wfs s.length B))) ∧ t[s.length + 1]? = some (some (.dct [])) ∧ St n t) _ ⟨⟨_, hE⟩, w0, m0, st_app (st_app hs)⟩ (fun d hd e T hI => ?_) fun e T hI => ?_))
  · obtain ⟨⟨y, rfl⟩, h1, h2, h3⟩ := hI
    obtain ⟨j, rfl⟩ : ∃ j : Int, d = .int j := by
      simp only [List.mem_cons, List.not_mem_nil, or_false] at hd
      rcases hd with rfl | rfl | rfl <;> exact ⟨_, rfl⟩
    refine ⟨_, rfl, ?_⟩
    have cl := call_ok (s := T) (w := s.length) (m := s.length + 1) (p1 := .tup [.str z]) (p2 := .int i) (x := .tup [.str z]) (t := .int i) (v := optS v) (u := .int i) (z := z) (by rw [h1, ← hB]; rfl) h2 j
    have ix : ∀ y T, eIx (eVar 13) (eK (.int 1)) (e15 ns k (.loc n) zs [x5, x6, some (.val (.str z)), some (.val (optS v)), some (.val (.int i)), some (.val (.lst (due1 (.str z) (optS v) (.int i)))), x11, some (.val (.lst [])), some (.val (.lst [.str "world", .loc s.length])), y]) T = .ok (.loc s.length) T := fun y T => ok_pure ((eBin_of (x := .lst [.str "world", .loc s.length]) (y := .int 1) rfl rfl).trans (by rw [oIx_lst, show atI [D.str "world", .loc s.length] (1 : Int) = some (.loc s.length) from DL.atI_nat (k := 1) rfl, optM_some]))
    unfold b_law_L1
    refine Wp.pass (s' := tw T (.tup [.tup [.str z], .int i]) (.tup [.str z]) (.int i) (optS v) (.int i) z (.dct (ru1 z))) (tOf_ok (eBin_ok (x := ans1 z v i) (y := ans1 z v i) (s1 := tw T (.tup [.tup [.str z], .int i]) (.tup [.str z]) (.int i) (optS v) (.int i) z (.dct (ru1 z))) (s2 := tw T (.tup [.tup [.str z], .int i]) (.tup [.str z]) (.int i) (optS v) (.int i) z (.dct (ru1 z))) (eCallI_ok (ds := [.int j]) (s1 := T) (s2 := T) (ix _ _) h1 (aCons_ok (eVar_ok (d := .int j) rfl) aNil_ok) h1 rfl cl) rfl (by rw [gA.neSelf (by decide)]; rfl))) ?_
    exact ⟨⟨_, rfl⟩, at_app h1, at_app h2, st_app h3⟩
  · obtain ⟨⟨y, rfl⟩, h1, h2, h3⟩ := hI
    have ix : ∀ T, eIx (eVar 13) (eK (.int 1)) (e15 ns k (.loc n) zs [x5, x6, some (.val (.str z)), some (.val (optS v)), some (.val (.int i)), some (.val (.lst (due1 (.str z) (optS v) (.int i)))), x11, some (.val (.lst [])), some (.val (.lst [.str "world", .loc s.length])), y]) T = .ok (.loc s.length) T := fun T => ok_pure ((eBin_of (x := .lst [.str "world", .loc s.length]) (y := .int 1) rfl rfl).trans (by rw [oIx_lst, show atI [D.str "world", .loc s.length] (1 : Int) = some (.loc s.length) from DL.atI_nat (k := 1) rfl, optM_some]))
    have sv := servers_okW (s := T) (w := s.length) (m := s.length + 1) (sts := one4 z v i) (by rw [h1, ← hB]) h2 sg n1
    rw [n2] at sv
    have nn : oNeS (.lst [.str z]) (.lst [.str z]) = pure (.bl false) := (GD.lst (m := 30) (w := 200) (ds := [.str z]) fun x hx => by
      have : x = .str z := by simpa using hx
      rw [this]; exact GD.of_nice hz.nice).neSelf (by decide)
    refine Wp.pass (s' := T) (tOr_ok (s1 := T) (tOf_ok (eBin_ok (x := .lst []) (y := .lst []) (s1 := T) (s2 := T) (eMeth_ok (ix T) h1 rfl aNil_ok rfl (moments_ok h1 rfl h2)) rfl (by kernel_rfl))) (tOf_ok (eBin_ok (x := .lst [.str z]) (y := .lst [.str z]) (s1 := T) (s2 := T) (eMeth_ok (ix T) h1 rfl aNil_ok rfl sv) rfl (by rw [nn]; rfl)))) ?_
    exact ⟨⟨_, _, _, _, _, _, _, _, _, _, rfl⟩, h3⟩
end
end Lw
set_option Elab.async false
set_option linter.all false
set_option maxRecDepth 100000
set_option maxHeartbeats 8000000
namespace Lw
open PySem L2 DL
section
variable {ns : List Int} {k : D} {n : Nat} {zs : List Str} {a c t : D}
def Three (ds : List D) : Prop := ∃ a c t, ds = [a, c, t] ∧ Pb a ∧ Pb c ∧ Pb t
theorem Three.len {ds : List D} (h : Three ds) : ds.length = 3 := by obtain ⟨a, c, t, rfl, _⟩ := h; rfl
theorem Three.set {ds : List D} (h : Three ds) {o : D} (ho : Pb o) {j : Nat} (hj : j < 3) : Three (ds.set j o) := by
  obtain ⟨a, c, t, rfl, ha, hc, ht⟩ := h
  rcases (show j = 0 ∨ j = 1 ∨ j = 2 by omega) with rfl | rfl | rfl
  · exact ⟨o, c, t, rfl, ho, hc, ht⟩
  · exact ⟨a, o, t, rfl, ha, ho, ht⟩
  · exact ⟨a, c, o, rfl, ha, hc, ho⟩
theorem turn_ok {ds : List D} (h : Three ds) {s : S} (hs : St n s) (x5 x7 x8 x9 x10 x11 x12 x13 x14 : Option SD) :
    Wp turnT (e15 ns k (.loc n) zs [x5, some (.own (.lst ds)), x7, x8, x9, x10, x11, x12, x13, x14]) s (In ns k n zs) := by
  obtain ⟨a, c, t, rfl, ha, hc, ht⟩ := h
  rw [turn_split]
  refine Wp.seq (Wp.frz (Wp.asgL (ds := [a, c, t]) (s1 := s) rfl rfl rfl ?_))
  show Wp _ (e15 ns k (.loc n) zs [x5, some (.val (.lst [a, c, t])), some (.val a), some (.val c), some (.val t), x10, x11, x12, x13, x14]) s _
  refine Wp.seq (Wp.set (d := .lst (due1 a c t)) (s' := s) rfl ?_)
  show Wp _ (e15 ns k (.loc n) zs [x5, some (.val (.lst [a, c, t])), some (.val a), some (.val c), some (.val t), some (.val (.lst (due1 a c t))), x11, x12, x13, x14]) s _
  have tp := due_tp ha hc ht
  generalize hE : e15 ns k (.loc n) zs [x5, some (.val (.lst [a, c, t])), some (.val a), some (.val c), some (.val t), some (.val (.lst (due1 a c t))), x11, x12, x13, x14] = E
  have e10 : E[10]? = some (some (.val (.lst (due1 a c t)))) := by rw [← hE]; rfl
  have eL : E.length = 15 := by rw [← hE]; rfl
  have e1 : nLc (DL.iItems (eVar 10)) (gN 11) (tNotM (tOf (eCall 1 m_is_step [] (aCons (eVar 11) aNil)))) (eVar 11) [11] E = pure (.lst (bad (due1 a c t))) := by
    have g11 : ∀ d : D, ((E.set 11 none).set 11 (some (.val d)))[11]? = some (some (.val d)) := fun d => List.getElem?_set_self (by rw [List.length_set, eL]; decide)
    have m := lcM_pure (g := gN 11) (t := tNotM (tOf (eCall 1 m_is_step [] (aCons (eVar 11) aNil)))) (e := eVar 11) (env := E.set 11 none) (E := fun d => (E.set 11 none).set 11 (some (.val d))) (p := fun d => !stepD d) (f := fun d => d) (due1 a c t) [] (fun d hd => ⟨rfl, tNot_p (tOf_p (eCall1_p (x := d) (eVar_p (g11 d)) (tp d hd).chk)), fun _ => eVar_p (g11 d)⟩) (by simp [due1, due])
    unfold nLc
    rw [show DL.iItems (eVar 10) E = pure (due1 a c t) by unfold DL.iItems; rw [eVar_p e10]; rfl, bind_pure', show wipeE E [11] = E.set 11 none from rfl, m, noX_pure, bind_pure', List.nil_append, List.map_id']
    rfl
  refine Wp.seq (Wp.own (ok_pure e1) ?_)
  have hF : DL.frz 12 (E.set 12 (some (.own (.lst (bad (due1 a c t)))))) = e15 ns k (.loc n) zs [x5, some (.val (.lst [a, c, t])), some (.val a), some (.val c), some (.val t), some (.val (.lst (due1 a c t))), x11, some (.val (.lst (bad (due1 a c t)))), x13, x14] := by rw [← hE]; rfl
  obtain ⟨t1, t2⟩ := told_ok ha hc ht s
  cases eb : bad (due1 a c t) with
  | cons x r =>
    obtain ⟨z, hz, bz, tz⟩ := t2 x r eb
    rw [eb] at hF
    refine Wp.seq (Wp.frz ?_)
    rw [hF]
    refine Wp.set (d := .lst [.str "wrong", .str z]) (s' := s) (eCall_ok (ds := _) (s1 := s) rfl rfl tz) ?_
    show Wp lastT (e15 ns k (.loc n) zs [x5, some (.val (.lst [a, c, t])), some (.val a), some (.val c), some (.val t), some (.val (.lst (due1 a c t))), x11, some (.val (.lst (x :: r))), some (.val (.lst [.str "wrong", .str z])), x14]) s _
    rw [← eb]
    exact last_bad ha hc ht eb hz bz hs x5 _ x11 x14
  | nil =>
    have tz := t1 eb
    obtain ⟨z, v, i, rfl, rfl, rfl, sg⟩ := parts_of ha hc ht eb
    rw [eb] at hF
    refine Wp.seq (Wp.frz ?_)
    rw [hF]
    refine Wp.set (d := .lst [.str "world", .loc s.length]) (s' := ws s (.tup ((one4 z v i).map Stp.d))) (eCall_ok (ds := _) (s1 := s) rfl rfl tz) ?_
    show Wp lastT (e15 ns k (.loc n) zs [x5, some (.val (.lst [.str z, optS v, .int i])), some (.val (.str z)), some (.val (optS v)), some (.val (.int i)), some (.val (.lst (due1 (.str z) (optS v) (.int i)))), x11, some (.val (.lst [])), some (.val (.lst [.str "world", .loc s.length])), x14]) _ _
    have fin := last_good (ns := ns) (k := k) (zs := zs) ha hc ht eb sg hs x5 (some (.val (.lst [.str z, optS v, .int i]))) x11 x14
    rw [eb] at fin
    exact fin
theorem L2_ok {z0 z1 : Str} (h0 : isW z0) (h1 : isW z1) {s : S} (hs : St n s) (x5 x6 x7 x8 x9 x10 x11 x12 x13 x14 : Option SD) :
    Wp b_law_L2 (e15 ns k (.loc n) [z0, z1] [x5, x6, x7, x8, x9, x10, x11, x12, x13, x14]) s (In ns k n [z0, z1]) := by
  rw [L2_split]
  have ix0 : ∀ env : LE, env[4]? = some (some (.val (.lst ([z0, z1].map .str)))) → eIx (eVar 4) (eK (.int 0)) env = pure (.str z0) := fun env h => (eBin_of (eVar_p h) rfl).trans (by rw [oIx_lst, show atI ([z0, z1].map D.str) (0 : Int) = some (.str z0) from DL.atI_nat (k := 0) rfl, optM_some])
  have ix1 : ∀ env : LE, env[4]? = some (some (.val (.lst ([z0, z1].map .str)))) → eIx (eVar 4) (eK (.int 1)) env = pure (.str z1) := fun env h => (eBin_of (eVar_p h) rfl).trans (by rw [oIx_lst, show atI ([z0, z1].map D.str) (1 : Int) = some (.str z1) from DL.atI_nat (k := 1) rfl, optM_some])
  generalize hE : e15 ns k (.loc n) [z0, z1] [x5, x6, x7, x8, x9, x10, x11, x12, x13, x14] = E
  have h3 : E[3]? = some (some (.val (.loc n))) := by rw [← hE]; rfl
  have h4 : E[4]? = some (some (.val (.lst ([z0, z1].map .str)))) := by rw [← hE]; rfl
  have e2 : eFrz (nLst (aCons (eK .non) (aCons (eIx (eVar 4) (eK (.int 0))) (aCons (eIx (eVar 4) (eK (.int 1))) aNil)))) E = pure (.lst [.non, .str z0, .str z1]) := by
    have q : aCons (eK .non) (aCons (eIx (eVar 4) (eK (.int 0))) (aCons (eIx (eVar 4) (eK (.int 1))) aNil)) E = pure [.non, .str z0, .str z1] := by
      show (eK .non E >>= fun x => (eIx (eVar 4) (eK (.int 0)) E >>= fun y => (eIx (eVar 4) (eK (.int 1)) E >>= fun u => aNil E >>= fun r => (pure (u :: r) : M (List D))) >>= fun r => pure (y :: r)) >>= fun r => pure (x :: r)) = _
      rw [ix0 E h4, ix1 E h4]
      rfl
    unfold eFrz nLst
    rw [q]
    rfl
  obtain ⟨c, s1, q1, hc, i1⟩ := (choose_w (n := n) (i := 3) (ds := [.non, .str z0, .str z1]) h3 e2 (by simp) (by simp)) s hs
  have pc : Pb c := by
    simp only [List.mem_cons, List.not_mem_nil, or_false] at hc
    rcases hc with rfl | rfl | rfl
    · exact Pb.non
    · exact Pb.word h0
    · exact Pb.word h1
  refine Wp.seq (Wp.own (d := .lst [.str z0, c]) (s' := s1) (M.bind_to (aCons_ok (ok_pure (ix0 E h4)) (aCons_ok q1 aNil_ok)) rfl) ?_)
  rw [← hE]
  show Wp _ (e15 ns k (.loc n) [z0, z1] [x5, some (.own (.lst [.str z0, c])), x7, x8, x9, x10, x11, x12, x13, x14]) s1 _
  obtain ⟨t, s2, q2, ⟨ti, rfl, tb⟩, i2⟩ := (choose_ev (n := n) (i := 3) (P := fun ds => ∃ j : Int, ds = [.int 1, .int 2, .int 1000000000, .int j] ∧ 0 ≤ j ∧ j < 1000000002) (env := e15 ns k (.loc n) [z0, z1] [x5, some (.own (.lst [.str z0, c])), x7, x8, x9, x10, x11, x12, x13, x14]) rfl
      (Tr.nLst (Tr.aCons (Tr.eK (d := .int 1)) (Tr.aCons (Tr.eK (d := .int 2)) (Tr.aCons (Tr.of_pure (P := fun d => d = .int 1000000000) ten9 rfl) (Tr.aCons (Tr.eBin (R := fun d => ∃ j : Int, d = .int j ∧ 0 ≤ j ∧ j < 1000000002) (Tr.eK (d := .int 1)) (Tr.eCall2 (Tr.eVar (i := 3) (d := .loc n) rfl) (Tr.of_pure (P := fun d => d = .int 1000000000) ten9 rfl) fun x y hx hy => by
        subst hx; subst hy
        exact draw_ok n 1000000000 (by decide) (by decide)) fun x y hx hy => by
          obtain ⟨j, rfl, j0, j1⟩ := hy
          subst hx
          exact Tr.of_pure oAdd_int ⟨_, rfl, by omega, by omega⟩) Tr.aNil (R := fun ds => ∃ j : Int, ds = [.int j] ∧ 0 ≤ j ∧ j < 1000000002) fun x ds hx hd => by
            obtain ⟨j, rfl, hj⟩ := hx
            exact ⟨j, by rw [hd], hj⟩) (R := fun ds => ∃ j : Int, ds = [.int 1000000000, .int j] ∧ 0 ≤ j ∧ j < 1000000002) fun x ds hx hd => by
              obtain ⟨j, rfl, hj⟩ := hd
              exact ⟨j, by rw [hx], hj⟩) (R := fun ds => ∃ j : Int, ds = [.int 2, .int 1000000000, .int j] ∧ 0 ≤ j ∧ j < 1000000002) fun x ds hx hd => by
                obtain ⟨j, rfl, hj⟩ := hd
                exact ⟨j, by rw [hx], hj⟩) fun x ds hx hd => by
                  obtain ⟨j, rfl, hj⟩ := hd
                  exact ⟨j, by rw [hx], hj⟩) fun ds hd => by
                    obtain ⟨j, rfl, _⟩ := hd
                    simp) (fun ds hd => by
                      obtain ⟨j, rfl, _⟩ := hd
                      simp)).imp (fun d hd => (by
                        obtain ⟨ds, ⟨j, rfl, j0, j1⟩, hm⟩ := hd
                        simp only [List.mem_cons, List.not_mem_nil, or_false] at hm
                        rcases hm with rfl | rfl | rfl | rfl
                        · exact ⟨1, rfl, by decide⟩
                        · exact ⟨2, rfl, by decide⟩
                        · exact ⟨1000000000, rfl, by decide⟩
                        · exact ⟨j, rfl, by omega⟩ : ∃ i : Int, d = .int i ∧ i.natAbs < 10 ^ 12)) s1 i1
  refine Wp.seq (Wp.app rfl q2 (by simp) ?_)
  show Wp _ (e15 ns k (.loc n) [z0, z1] [x5, some (.own (.lst [.str z0, c, .int ti])), x7, x8, x9, x10, x11, x12, x13, x14]) s2 _
  have tv : Three [.str z0, c, .int ti] := ⟨_, _, _, rfl, Pb.word h0, pc, Pb.int tb⟩
  generalize hds : [D.str z0, c, .int ti] = ds at tv
  refine Wp.seq (Wp.imp (R := fun e s' => ∃ es, e = e15 ns k (.loc n) [z0, z1] [x5, some (.own (.lst es)), x7, x8, x9, x10, x11, x12, x13, x14] ∧ Three es ∧ St n s') ?_ fun e s' hI => ?_)
  · obtain ⟨_, s4, q4, ⟨i, rfl, i0, i2'⟩, i4⟩ := (draw_ev (n := n) (i := 3) (c := 2) (env := e15 ns k (.loc n) [z0, z1] [x5, some (.own (.lst ds)), x7, x8, x9, x10, x11, x12, x13, x14]) rfl (by decide) (by decide)) s2 i2
    have tst : tOf (eBin oEqS (eCall 2 m__law_draw [] (aCons (eVar 3) (aCons (eK (.int 2)) aNil))) (eK (.int 0))) (e15 ns k (.loc n) [z0, z1] [x5, some (.own (.lst ds)), x7, x8, x9, x10, x11, x12, x13, x14]) s2 = .ok (decide (i = 0)) s4 := tOf_ok (eBin_ok q4 (y := .int 0) (s2 := s4) rfl (by rw [eqs_int]; rfl))
    by_cases hi : i = 0
    · rw [decide_eq_true hi] at tst
      refine Wp.if_t tst ?_
      obtain ⟨o, s5, q5, ho, i5⟩ := (choose_w (n := n) (i := 3) (m := eVar 1) (ds := odds) (env := e15 ns k (.loc n) [z0, z1] [x5, some (.own (.lst ds)), x7, x8, x9, x10, x11, x12, x13, x14]) rfl rfl (by simp [odds]) (by simp [odds])) s4 i4
      obtain ⟨_, s6, q6, ⟨j, rfl, j0, j1⟩, i6⟩ := (draw_ev (n := n) (i := 3) (c := 3) (env := e15 ns k (.loc n) [z0, z1] [x5, some (.own (.lst ds)), x7, x8, x9, x10, x11, x12, x13, x14]) rfl (by decide) (by decide)) s5 i5
      refine Wp.setixO q5 rfl q6 (j := j.toNat) (by
        rw [tv.len]
        have := ixN_nat (n := 3) (k := j.toNat) (by omega)
        rwa [show ((j.toNat : Nat) : Int) = j by omega] at this) ?_
      exact ⟨_, rfl, tv.set (Pb.odd ho) (by omega), i6⟩
    · rw [decide_eq_false hi] at tst
      exact Wp.pass tst ⟨_, rfl, tv, i4⟩
  · obtain ⟨es, rfl, f, i⟩ := hI
    exact turn_ok f i _ _ _ _ _ _ _ _ _
end
def InvL (ns : List Int) (e : LE) (_ : S) : Prop := ∃ k n xs, xs.length = 11 ∧ e = some (.val (.scr ns)) :: some (.val (.lst odds)) :: k :: n :: xs
theorem L3_ok (ns : List Int) (k : Nat) (hk : k < 1000) (n0 : Option SD) (xs : List (Option SD)) (hx : xs.length = 11) (s : S) : Wp b_law_L3 (some (.val (.scr ns)) :: some (.val (.lst odds)) :: some (.val (.int k)) :: n0 :: xs) s (InvL ns) := by
  obtain ⟨x4, x5, x6, x7, x8, x9, x10, x11, x12, x13, x14, rfl⟩ : ∃ x4 x5 x6 x7 x8 x9 x10 x11 x12 x13 x14, xs = [x4, x5, x6, x7, x8, x9, x10, x11, x12, x13, x14] := by
    match xs, hx with
    | [x4, x5, x6, x7, x8, x9, x10, x11, x12, x13, x14], _ => exact ⟨_, _, _, _, _, _, _, _, _, _, _, rfl⟩
  unfold b_law_L3
  obtain ⟨s1, h1, i1⟩ := stream_ok ns k hk s
  generalize s.length = n at h1 i1
  refine Wp.seq (Wp.set (d := .loc n) (s' := s1) (eCall2_ok (eVar_ok rfl) (eVar_ok rfl) h1) ?_)
  show Wp _ [some (.val (.scr ns)), some (.val (.lst odds)), some (.val (.int k)), some (.val (.loc n)), x4, x5, x6, x7, x8, x9, x10, x11, x12, x13, x14] s1 _
  obtain ⟨_, s2, h2, ⟨zs, rfl, l2, zw⟩, i2⟩ := names_ok n s1 i1
  obtain ⟨z0, z1, rfl⟩ : ∃ z0 z1, zs = [z0, z1] := by
    match zs, l2 with
    | [z0, z1], _ => exact ⟨_, _, rfl⟩
  refine Wp.seq (Wp.set (d := .lst ([z0, z1].map .str)) (s' := s2) (eCall2_ok (s1 := s1) (s2 := s1) (eVar_ok rfl) rfl h2) ?_)
  refine Wp.for (ds := rangeD 0 6) (s' := s2) (by rfl) ?_
  refine Wp.each (I := In ns (.int k) n [z0, z1]) _ ⟨⟨_, _, _, _, _, _, _, _, _, _, rfl⟩, i2⟩ (fun d hd e t hI => ?_) fun e t hI => ?_
  · obtain ⟨⟨y5, y6, y7, y8, y9, y10, y11, y12, y13, y14, rfl⟩, it⟩ := hI
    exact ⟨_, rfl, L2_ok (zw z0 (by simp)) (zw z1 (by simp)) it _ _ _ _ _ _ _ _ _ _⟩
  · obtain ⟨⟨y5, y6, y7, y8, y9, y10, y11, y12, y13, y14, rfl⟩, it⟩ := hI
    exact ⟨_, _, _, rfl, rfl⟩
theorem odds_p {env : LE} : eFrz (nLst (aCons (eK .non) (aCons (eK (.bl true)) (aCons (eK (.int 0)) (aCons (eBin oAdd (eBin oPow (eK (.int 10)) (eK (.int 9))) (eK (.int 1))) (aCons (eK (.str "")) (aCons (eK (.str "A")) (aCons (eTup aNil) (aCons (eFrz (nLst (aCons (eK (.str "a")) aNil))) (aCons (eK (.str "abcdefghi")) (aCons (eK (.int 5)) (aCons (eK (.str "b1")) aNil)))))))))))) env = pure (.lst odds) := by kernel_rfl
theorem law_holds : LawM 63 m_law := fun ns _ => by
  unfold m_law
  rw [mFn_run]
  unfold b_law
  rw [runS_set, odds_p, bind_pure']
  show ∃ s', runS _ (some (.val (.scr ns)) :: some (.val (.lst odds)) :: none :: none :: List.replicate 11 none) [] = .ok (.bl true) s'
  obtain ⟨z, hz, hi⟩ := lawI_ok ns (env := some (.val (.scr ns)) :: some (.val (.lst odds)) :: none :: none :: List.replicate 11 none) rfl []
  refine run_wp (Wp.for hi ?_)
  refine Wp.each (I := InvL ns) _ ⟨none, none, List.replicate 11 none, rfl, rfl⟩ (fun d hd e t hI => ?_) fun e t hI => ?_
  · obtain ⟨k, n, xs, hx, rfl⟩ := hI
    unfold rangeD at hd
    obtain ⟨q, hq, rfl⟩ := List.mem_map.mp hd
    have hq' : q < 12 := by
      have := List.mem_range.mp hq
      omega
    rw [Int.zero_add]
    exact ⟨_, rfl, L3_ok ns q (by omega) n xs hx t⟩
  · exact ⟨t, by rw [runS_ret]; rfl⟩
end Lw
set_option Elab.async false
set_option linter.all false
set_option maxRecDepth 100000
noncomputable section
open PySem PySem.W PyProof.Rows
theorem Lw.walk {l : PySem.W.OpenLaw} {q : Program} {loose : List Str} {XP : (Str → Option Value) → Heap → Prop} {YP : World → Heap → Prop} {d : DefRec} {K : Params → PySem.W.Frag} {m : List DL.D → DL.M DL.D} (hn : l.most = some 63) (hdf : d.params.defaults = []) (hY : ∀ (w : World) (h : Heap), YP w h → (K w.params).In h)
    (F : ∀ (w : World) (mg : Str → Option Value) (fa : Addr) (h : Heap), (K w.params).In h → h.Ns mainGlobals mg → mg d.name = some (.ref fa) → ∃ (fd : FuncData) (C : DL.Ct), C.K = K w.params ∧ (∀ (s : Shared) (u : Value), BindsTo s fd ⟨[u], []⟩ [("_law_script", u)]) ∧ ∀ base : Heap, (K w.params).In base → base.Ns mainGlobals mg → DL.FnG l.prog w C mg base 13 fa fd ["_law_script"] m)
    (hm : DL.LawM 63 m) : PySem.W.WalkO q loose XP YP l.row.toRowW d [] (fun f vs => PySem.call f vs) := DL.walk_G (n := 63) hn (by decide) hdf ⟨⟨rfl, by decide, by decide⟩, rfl⟩ hY F hm
set_option pp.maxSteps 200 in
set_option maxRecDepth 100000 in
set_option maxHeartbeats 0 in
theorem PySem.Challenge.cw_movednames_k09_worlds_of_one_server_holds : PySem.Challenge.rw_movednames_k09_worlds_of_one_server.Holds := by
  w_on; o_law; k_head; (case hw => w_witness2)
  k_fill
  refine Lw.walk (l := PySem.Challenge.rw_movednames_k09_worlds_of_one_server) (m := Lw.m_law) rfl rfl (fun w h Y => PySem.W.kIn_of Y) ?F Lw.law_holds
  case F =>
    intro w mg fa h KX G hmg
    refine' Lw.all_mk KX G hmg ?gY1 ?gY2 ?gY3 ?gY4 ?gY5 ?a0 ?i0 ?l0 ?c0 ?k0 ?a1 ?i1 ?l1 ?c1 ?k1 ?a2 ?i2 ?l2 ?c2 ?k2 ?a3 ?i3 ?l3 ?c3 ?k3 ?a4 ?l4 ?c4 ?k4 ?a5 ?i5 ?l5 ?c5 ?k5 ?a6 ?i6 ?l6 ?c6 ?k6 ?a7 ?l7 ?c7 ?k7 ?a8 ?i8 ?fi8 ?l8 ?c8 ?k8 ?a9 ?i9 ?l9 ?c9 ?k9 ?a10 ?l10 ?c10 ?k10 ?a11 ?l11 ?c11 ?k11 ?a12 ?l12 ?c12 ?k12 ?a13 ?l13 ?c13 ?k13 ?a14 ?l14 ?c14 ?k14 ?a15 ?l15 ?c15 ?k15 ?a16 ?l16 ?c16 ?k16 ?a17 ?l17 ?c17 ?k17 ?a18 ?l18 ?c18 ?k18 ?a19 ?i19 ?l19 ?c19 ?k19 ?sgr5 ?sga5 ?a20 ?pc20 ?l20 ?c20 ?k20 ?a21 ?i21 ?l21 ?c21 ?k21 ?a22 ?i22 ?l22 ?c22 ?k22 ?a23 ?l23 ?c23 ?k23 ?a24 ?l24 ?c24 ?k24 ?a25 ?l25 ?c25 ?k25 ?a26 ?l26 ?kd26_answer_time ?c26 ?k26 ?a27 ?pc27 ?l27 ?c27 ?k27 ?a28 ?l28 ?c28 ?k28 ?a29 ?l29 ?c29 ?k29 ?a30 ?l30 ?c30 ?k30 ?z_all ?z_any ?z_bool ?z_int ?z_isinstance ?z_len ?z_list ?z_max ?z_min ?z_range ?z_repr ?z_sorted ?z_str ?z_tuple ?v_LETTERS ?v_MOST_LETTERS ?v_MOST_SERVERS ?v_MOST_TIME ?opg4 ?ohd4 ?opo4 ?osa4 ?on4_answerings ?on4_gone ?on4_parent ?on4_running ?on4_tellings ?omk4 ?okc4 ?oha4 ?ohm4 ?opg5 ?ohd5 ?opo5 ?osa5 ?on5_first ?on5_said ?omk5 ?okc5 ?oha5 ?ohm5 ?oki5_NoneType ?oki5_bool ?oki5_int ?oki5_str ?oki5_tuple ?oki5_list ?oki5_dict ?oks4_5 ?oks5_5 ?onf5_NoneType ?onf5_bool ?onf5_int ?onf5_str ?onf5_tuple ?onf5_list ?onf5_dict ?onf5_own ?xC1 ?rv1 ?sa1 ?ga1 ?gg1 ?nf1 ?ac1 ?ic1 ?tc1 ?kc1 ?ex1 ?ty1 ?hd1 ?mo1 ?su1 ?sv1 ?se1 ?li1 ?ci1 ?lc1 ?vf1 ?fe1 ?lx1 ?xC2 ?rv2 ?sa2 ?ga2 ?gg2 ?nf2 ?ac2 ?ic2 ?tc2 ?kc2 ?ex2 ?ty2 ?hd2 ?mo2 ?su2 ?sv2 ?se2 ?li2 ?ci2 ?lc2 ?vf2 ?fe2 ?lx2 ?xC3 ?rv3 ?sa3 ?ga3 ?gg3 ?nf3 ?ac3 ?ic3 ?tc3 ?kc3 ?ex3 ?ty3 ?hd3 ?mo3 ?su3 ?sv3 ?se3 ?li3 ?ci3 ?lc3 ?vf3 ?fe3 ?lx3 ?nsu ?ti ?gn ?gt ?s_1_1 ?s_2_1 ?s_3_1
    (case gY1 => k_is); (case gY2 => k_is); (case gY3 => k_is); (case gY4 => k_is); (case gY5 => k_is); (case a0 => k_is)
    (case i0 => k_is); (case l0 => k_is); (case c0 => k_is); (case k0 => k_is); (case a1 => k_is); (case i1 => k_is)
    (case l1 => k_is); (case c1 => k_is); (case k1 => k_is); (case a2 => k_is); (case i2 => k_is); (case l2 => k_is)
    (case c2 => k_is); (case k2 => k_is); (case a3 => k_is); (case i3 => k_is); (case l3 => k_is); (case c3 => k_is)
    (case k3 => k_is); (case a4 => k_is); (case l4 => k_is); (case c4 => k_is); (case k4 => k_is); (case a5 => k_is)
    (case i5 => k_is); (case l5 => k_is); (case c5 => k_is); (case k5 => k_is); (case a6 => k_is); (case i6 => k_is)
    (case l6 => k_is); (case c6 => k_is); (case k6 => k_is); (case a7 => k_is); (case l7 => k_is); (case c7 => k_is)
    (case k7 => k_is); (case a8 => k_is); (case i8 => k_is); (case fi8 => k_is); (case l8 => k_is); (case c8 => k_is)
    (case k8 => k_is); (case a9 => k_is); (case i9 => k_is); (case l9 => k_is); (case c9 => k_is); (case k9 => k_is)
    (case a10 => k_is); (case l10 => k_is); (case c10 => k_is); (case k10 => k_is); (case a11 => k_is); (case l11 => k_is)
    (case c11 => k_is); (case k11 => k_is); (case a12 => k_is); (case l12 => k_is); (case c12 => k_is); (case k12 => k_is)
    (case a13 => k_is); (case l13 => k_is); (case c13 => k_is); (case k13 => k_is); (case a14 => k_is); (case l14 => k_is)
    (case c14 => k_is); (case k14 => k_is); (case a15 => k_is); (case l15 => k_is); (case c15 => k_is); (case k15 => k_is)
    (case a16 => k_is); (case l16 => k_is); (case c16 => k_is); (case k16 => k_is); (case a17 => k_is); (case l17 => k_is)
    (case c17 => k_is); (case k17 => k_is); (case a18 => k_is); (case l18 => k_is); (case c18 => k_is); (case k18 => k_is)
    (case a19 => k_is); (case i19 => k_is); (case l19 => k_is); (case c19 => k_is); (case k19 => k_is); (case sgr5 => k_is)
    (case sga5 => k_is); (case a20 => k_is); (case pc20 => k_is); (case l20 => k_is); (case c20 => k_is); (case k20 => k_is)
    (case a21 => k_is); (case i21 => k_is); (case l21 => k_is); (case c21 => k_is); (case k21 => k_is); (case a22 => k_is)
    (case i22 => k_is); (case l22 => k_is); (case c22 => k_is); (case k22 => k_is); (case a23 => k_is); (case l23 => k_is)
    (case c23 => k_is); (case k23 => k_is); (case a24 => k_is); (case l24 => k_is); (case c24 => k_is); (case k24 => k_is)
    (case a25 => k_is); (case l25 => k_is); (case c25 => k_is); (case k25 => k_is); (case a26 => k_is); (case l26 => k_is)
    (case kd26_answer_time => k_is); (case c26 => k_is); (case k26 => k_is); (case a27 => k_is); (case pc27 => k_is); (case l27 => k_is)
    (case c27 => k_is); (case k27 => k_is); (case a28 => k_is); (case l28 => k_is); (case c28 => k_is); (case k28 => k_is)
    (case a29 => k_is); (case l29 => k_is); (case c29 => k_is); (case k29 => k_is); (case a30 => k_is); (case l30 => k_is)
    (case c30 => k_is); (case k30 => k_is); (case z_all => k_is); (case z_any => k_is); (case z_bool => k_is); (case z_int => k_is)
    (case z_isinstance => k_is); (case z_len => k_is); (case z_list => k_is); (case z_max => k_is); (case z_min => k_is); (case z_range => k_is)
    (case z_repr => k_is); (case z_sorted => k_is); (case z_str => k_is); (case z_tuple => k_is); (case v_LETTERS => k_is); (case v_MOST_LETTERS => k_is)
    (case v_MOST_SERVERS => k_is); (case v_MOST_TIME => k_is); (case opg4 => k_is); (case ohd4 => k_is); (case opo4 => k_is); (case osa4 => k_is)
    (case on4_answerings => k_is); (case on4_gone => k_is); (case on4_parent => k_is); (case on4_running => k_is); (case on4_tellings => k_is); (case omk4 => k_is)
    (case okc4 => k_is); (case oha4 => k_is); (case ohm4 => k_is); (case opg5 => k_is); (case ohd5 => k_is); (case opo5 => k_is)
    (case osa5 => k_is); (case on5_first => k_is); (case on5_said => k_is); (case omk5 => k_is); (case okc5 => k_is); (case oha5 => k_is)
    (case ohm5 => k_is); (case oki5_NoneType => first | rfl | k_is); (case oki5_bool => first | rfl | k_is); (case oki5_int => first | rfl | k_is); (case oki5_str => first | rfl | k_is); (case oki5_tuple => first | rfl | k_is)
    (case oki5_list => first | rfl | k_is); (case oki5_dict => first | rfl | k_is); (case oks4_5 => first | rfl | k_is); (case oks5_5 => first | rfl | k_is); (case onf5_NoneType => k_is); (case onf5_bool => k_is)
    (case onf5_int => k_is); (case onf5_str => k_is); (case onf5_tuple => k_is); (case onf5_list => k_is); (case onf5_dict => k_is); (case onf5_own => k_is)
    (case xC1 => k_is); (case rv1 => first | rfl | decide +kernel); (case sa1 => k_is); (case ga1 => k_is); (case gg1 => k_is); (case nf1 => k_is)
    (case ac1 => k_is); (case ic1 => k_is); (case tc1 => k_is); (case kc1 => k_is); (case ex1 => k_is); (case ty1 => k_is)
    (case hd1 => k_is); (case mo1 => k_is); (case su1 => ks_is); (case sv1 => k_is); (case se1 => k_is); (case li1 => k_is)
    (case ci1 => k_is); (case lc1 => k_is); (case vf1 => first | rfl | k_is); (case fe1 => first | rfl | decide +kernel); (case lx1 => k_is); (case xC2 => k_is)
    (case rv2 => first | rfl | decide +kernel); (case sa2 => k_is); (case ga2 => k_is); (case gg2 => k_is); (case nf2 => k_is); (case ac2 => k_is)
    (case ic2 => k_is); (case tc2 => k_is); (case kc2 => k_is); (case ex2 => k_is); (case ty2 => k_is); (case hd2 => k_is)
    (case mo2 => k_is); (case su2 => ks_is); (case sv2 => k_is); (case se2 => k_is); (case li2 => k_is); (case ci2 => k_is)
    (case lc2 => k_is); (case vf2 => first | rfl | k_is); (case fe2 => first | rfl | decide +kernel); (case lx2 => k_is); (case xC3 => k_is); (case rv3 => first | rfl | decide +kernel)
    (case sa3 => k_is); (case ga3 => k_is); (case gg3 => k_is); (case nf3 => k_is); (case ac3 => k_is); (case ic3 => k_is)
    (case tc3 => k_is); (case kc3 => k_is); (case ex3 => k_is); (case ty3 => k_is); (case hd3 => k_is); (case mo3 => k_is)
    (case su3 => ks_is); (case sv3 => k_is); (case se3 => k_is); (case li3 => k_is); (case ci3 => k_is); (case lc3 => k_is)
    (case vf3 => first | rfl | k_is); (case fe3 => first | rfl | decide +kernel); (case lx3 => k_is); (case nsu => k_is); (case ti => k_is); (case gn => k_is)
    (case gt => k_is); (case s_1_1 => first | rfl | k_is); (case s_2_1 => first | rfl | k_is); (case s_3_1 => first | rfl | k_is)
end
