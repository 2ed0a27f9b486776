import PyProof.Rows.All
import Wide.All
import OpenK.AllK
import Wide.FinOn
import HandS.ForMost
import HandS.Exc
import HandS.TryOnly
import HandS.ExcOwn
import HandS.WordsExc
import KE.DataEq
import HandS.IsInst
import HandS.Style
import HandS.SetKeys
import HandS.Conv
import HandS.Flt
import HandS.ExcIs
import HandS.ExcValue
import KE.KExcIs
import HandS.ExcInit
import HandS.SetFor
import HandS.Strs
import HandS.Iter
import HandS.SortInts
import HandS.Zip
import HandS.TupAny
import HandS.Defaults
import PySem.Challenge.RW_toandfro_k02_whole_trees_fit
set_option Elab.async false
set_option linter.all false
set_option maxRecDepth 100000
set_option maxHeartbeats 8000000
/-! A small verified semantics over the hand layer: values as trees (D), changeable cells, combinators. -/
namespace Z
open PySem PySem.Spec PyProof.Rows L2

/-- a value as a tree: what is not changed any more -/
inductive D where
  | non | bl (b : Bool) | int (i : Int) | str (s : List Nat) | lst (l : List D) | tup (l : List D) | ins (c : String) (fs : List (String × D)) | exc (c : String) (fs : List (String × D))

/-- what a slot holds: a tree, or a cell that may be changed -/
inductive Sv where
  | d (x : D) | c (n : Nat)

inductive Cell where
  | lst (xs : List Sv) | dct (kvs : List (Key × Sv)) | ins (c : String) (fs : List (String × Sv)) | fz

/-- the written part, and the classes by their names -/
structure Gx where
  K : PySem.W.Frag
  cls : String → Addr

variable {G : Gx}

/-- an exception object of the class cls, its dict d, that no frame carries any more -/
def ExA (cls : Value) (d : Option Addr) (a : Addr) : HO := .ext fun h => ∃ (oe : Obj) (vs : Array Value), h.get? a = some oe ∧ Zc cls d oe ∧ oe.data = .fields vs
mutual
inductive Rp (G : Gx) (F : Hp) : V → D → Prop
  | non : Rp G F .non .non
  | bl (b : Bool) : Rp G F (.bl b) (.bl b)
  | int (i : Int) : Rp G F (.int i) (.int i)
  | str (x : Str) : Rp G F (.str x) (.str x.cps.toList)
  | lst {a : Addr} {vs : List V} {ds : List D} : SqL G.K F a vs → RpL G F vs ds → Rp G F (.ref a) (.lst ds)
  | tup {a : Addr} {vs : List V} {ds : List D} : SqT G.K F a vs → RpL G F vs ds → Rp G F (.ref a) (.tup ds)
  | ins {a dx : Addr} {c : String} {fs : List (Str × V)} {gs : List (String × D)} : F a = some (.ins (G.cls c) dx fs) → RpF G F fs gs → Rp G F (.ref a) (.ins c gs)
  | exc0 {a : Addr} {c : String} : F a = some (ExA (.ref (G.cls c)) none a) → Rp G F (.ref a) (.exc c [])
  | excD {a dd : Addr} {c : String} {fs : List (Str × V)} {gs : List (String × D)} : F a = some (ExA (.ref (G.cls c)) (some dd) a) → F dd = some (.xd fs) → RpF G F fs gs → Rp G F (.ref a) (.exc c gs)
inductive RpL (G : Gx) (F : Hp) : List V → List D → Prop
  | nil : RpL G F [] []
  | cons {v : V} {d : D} {vs : List V} {ds : List D} : Rp G F v d → RpL G F vs ds → RpL G F (v :: vs) (d :: ds)
inductive RpF (G : Gx) (F : Hp) : List (Str × V) → List (String × D) → Prop
  | nil : RpF G F [] []
  | cons {x : String} {v : V} {d : D} {fs : List (Str × V)} {gs : List (String × D)} : Rp G F v d → RpF G F fs gs → RpF G F ((Str.ofString x, v) :: fs) ((x, d) :: gs)
end

def Ex (H H' : Hp) : Prop := ∀ a o, H a = some o → H' a = some o
theorem Ex.refl (H : Hp) : Ex H H := fun _ _ h => h
theorem Ex.trans {H H1 H2 : Hp} (a : Ex H H1) (b : Ex H1 H2) : Ex H H2 := fun x o h => b x o (a x o h)
theorem Ex.new {H : Hp} {p : Addr} {o : HO} (h : H p = none) : Ex H (upd H p o) := fun a u e => by
  rw [upd_ne (ne_of_none e h)]; exact e
theorem Ex.none {H H' : Hp} (e : Ex H H') {a : Addr} (h : H' a = none) : H a = none := by
  cases q : H a with
  | none => rfl
  | some o => rw [e a o q] at h; cases h
theorem Ex.rd {H H' : Hp} {a : Addr} {u : HO} (e : Ex H H') (h : Rd H a u) : Rd H' a u := by
  rcases h with h | ⟨o, h⟩
  · exact .inl (e a _ h)
  · exact .inr ⟨o, e a _ h⟩
theorem Ex.l {K : PySem.W.Frag} {H H' : Hp} {a : Addr} {xs : List V} (e : Ex H H') (h : SqL K H a xs) : SqL K H' a xs := by
  rcases h with h | h
  · exact .inl (e.rd h)
  · exact .inr h
theorem Ex.t {K : PySem.W.Frag} {H H' : Hp} {a : Addr} {xs : List V} (e : Ex H H') (h : SqT K H a xs) : SqT K H' a xs := by
  rcases h with h | h
  · exact .inl (e.rd h)
  · exact .inr h

mutual
theorem Rp.mono {F F' : Hp} (e : Ex F F') : ∀ {v : V} {d : D}, Rp G F v d → Rp G F' v d
  | _, _, .non => .non
  | _, _, .bl b => .bl b
  | _, _, .int i => .int i
  | _, _, .str x => .str x
  | _, _, .lst h r => .lst (e.l h) (RpL.mono e r)
  | _, _, .tup h r => .tup (e.t h) (RpL.mono e r)
  | _, _, .ins h r => .ins (e _ _ h) (RpF.mono e r)
  | _, _, .exc0 h => .exc0 (e _ _ h)
  | _, _, .excD h k r => .excD (e _ _ h) (e _ _ k) (RpF.mono e r)
theorem RpL.mono {F F' : Hp} (e : Ex F F') : ∀ {v : List V} {d : List D}, RpL G F v d → RpL G F' v d
  | _, _, .nil => .nil
  | _, _, .cons h r => .cons (Rp.mono e h) (RpL.mono e r)
theorem RpF.mono {F F' : Hp} (e : Ex F F') : ∀ {v : List (Str × V)} {d : List (String × D)}, RpF G F v d → RpF G F' v d
  | _, _, .nil => .nil
  | _, _, .cons h r => .cons (Rp.mono e h) (RpF.mono e r)
end

/-- slots and cells' items -/
inductive Rs (G : Gx) (F : Hp) (ρ : List Addr) : V → Sv → Prop
  | d {v : V} {x : D} : Rp G F v x → Rs G F ρ v (.d x)
  | c {n : Nat} {a : Addr} : ρ[n]? = some a → Rs G F ρ (.ref a) (.c n)
inductive RsL (G : Gx) (F : Hp) (ρ : List Addr) : List V → List Sv → Prop
  | nil : RsL G F ρ [] []
  | cons {v : V} {x : Sv} {vs : List V} {xs : List Sv} : Rs G F ρ v x → RsL G F ρ vs xs → RsL G F ρ (v :: vs) (x :: xs)
inductive RsK (G : Gx) (F : Hp) (ρ : List Addr) : List (Key × V) → List (Key × Sv) → Prop
  | nil : RsK G F ρ [] []
  | cons {k : Key} {v : V} {x : Sv} {vs : List (Key × V)} {xs : List (Key × Sv)} : Rs G F ρ v x → RsK G F ρ vs xs → RsK G F ρ ((k, v) :: vs) ((k, x) :: xs)
inductive RsF (G : Gx) (F : Hp) (ρ : List Addr) : List (Str × V) → List (String × Sv) → Prop
  | nil : RsF G F ρ [] []
  | cons {k : String} {v : V} {x : Sv} {vs : List (Str × V)} {xs : List (String × Sv)} : Rs G F ρ v x → RsF G F ρ vs xs → RsF G F ρ ((Str.ofString k, v) :: vs) ((k, x) :: xs)
/-- the frame's slots -/
inductive Sl (G : Gx) (F : Hp) (ρ : List Addr) : L2.St → List (Option Sv) → Prop
  | nil : Sl G F ρ [] []
  | un {o : Option V} {vs : L2.St} {xs : List (Option Sv)} : Sl G F ρ vs xs → Sl G F ρ (o :: vs) (none :: xs)
  | cons {v : V} {x : Sv} {vs : L2.St} {xs : List (Option Sv)} : Rs G F ρ v x → Sl G F ρ vs xs → Sl G F ρ (some v :: vs) (some x :: xs)

/-- what is known grows: the trees' heap, the cells' addresses -/
structure Gr (F F' : Hp) (ρ ρ' : List Addr) : Prop where
  f : Ex F F'
  r : ∃ t, ρ' = ρ ++ t
theorem Gr.refl (F : Hp) (ρ : List Addr) : Gr F F ρ ρ := ⟨Ex.refl F, [], by simp⟩
theorem Gr.trans {F F1 F2 : Hp} {ρ ρ1 ρ2 : List Addr} (a : Gr F F1 ρ ρ1) (b : Gr F1 F2 ρ1 ρ2) : Gr F F2 ρ ρ2 := by
  obtain ⟨a1, t, a2⟩ := a
  obtain ⟨b1, u, b2⟩ := b
  exact ⟨a1.trans b1, t ++ u, by rw [b2, a2, List.append_assoc]⟩
theorem Gr.at {F F' : Hp} {ρ ρ' : List Addr} (g : Gr F F' ρ ρ') {n : Nat} {a : Addr} (h : ρ[n]? = some a) : ρ'[n]? = some a := by
  obtain ⟨_, t, e⟩ := g
  rw [e, List.getElem?_append_left (List.getElem?_eq_some_iff.mp h).1]
  exact h
section
variable {F F' : Hp} {ρ ρ' : List Addr}
theorem Rs.mono (g : Gr F F' ρ ρ') {v : V} {x : Sv} (h : Rs G F ρ v x) : Rs G F' ρ' v x := by
  cases h with
  | d h => exact .d (h.mono g.f)
  | c h => exact .c (g.at h)
theorem RsL.mono (g : Gr F F' ρ ρ') : ∀ {v : List V} {x : List Sv}, RsL G F ρ v x → RsL G F' ρ' v x
  | _, _, .nil => .nil
  | _, _, .cons h r => .cons (h.mono g) (RsL.mono g r)
theorem RsK.mono (g : Gr F F' ρ ρ') : ∀ {v : List (Key × V)} {x : List (Key × Sv)}, RsK G F ρ v x → RsK G F' ρ' v x
  | _, _, .nil => .nil
  | _, _, .cons h r => .cons (h.mono g) (RsK.mono g r)
theorem RsF.mono (g : Gr F F' ρ ρ') : ∀ {v : List (Str × V)} {x : List (String × Sv)}, RsF G F ρ v x → RsF G F' ρ' v x
  | _, _, .nil => .nil
  | _, _, .cons h r => .cons (h.mono g) (RsF.mono g r)
theorem Sl.mono (g : Gr F F' ρ ρ') : ∀ {v : L2.St} {x : List (Option Sv)}, Sl G F ρ v x → Sl G F' ρ' v x
  | _, _, .nil => .nil
  | _, _, .un r => .un (Sl.mono g r)
  | _, _, .cons h r => .cons (h.mono g) (Sl.mono g r)
theorem Sl.get : ∀ {σ : L2.St} {δ : List (Option Sv)} {i : Nat} {x : Sv}, Sl G F ρ σ δ → δ[i]? = some (some x) → ∃ v, σ[i]? = some (some v) ∧ Rs G F ρ v x
  | _, _, _, _, .nil, h => by simp at h
  | _, _, 0, _, .un _, h => by simp at h
  | _, _, i + 1, x, .un r, h => by
    obtain ⟨v, e, q⟩ := Sl.get (i := i) (x := x) r (by simpa using h)
    exact ⟨v, by simpa using e, q⟩
  | _, _, 0, x, .cons (v := v) q _, h => by
    simp at h; subst h
    exact ⟨v, rfl, q⟩
  | _, _, i + 1, x, .cons _ r, h => by
    obtain ⟨v, e, q⟩ := Sl.get (i := i) (x := x) r (by simpa using h)
    exact ⟨v, by simpa using e, q⟩
theorem Sl.set {v : V} {x : Sv} (q : Rs G F ρ v x) : ∀ {σ : L2.St} {δ : List (Option Sv)} (i : Nat), Sl G F ρ σ δ → Sl G F ρ (σ.set i (some v)) (δ.set i (some x))
  | _, _, _, .nil => .nil
  | _, _, 0, .un r => .cons q r
  | _, _, i + 1, .un r => .un (Sl.set q i r)
  | _, _, 0, .cons _ r => .cons q r
  | _, _, i + 1, .cons p r => .cons p (Sl.set q i r)
theorem Sl.un_at : ∀ {σ : L2.St} {δ : List (Option Sv)} (i : Nat) (o : Option V), Sl G F ρ σ δ → Sl G F ρ (σ.set i o) (δ.set i none)
  | _, _, _, _, .nil => .nil
  | _, _, 0, o, .un r => .un r
  | _, _, i + 1, o, .un r => .un (Sl.un_at i o r)
  | _, _, 0, o, .cons _ r => .un r
  | _, _, i + 1, o, .cons p r => .cons p (Sl.un_at i o r)
theorem Sl.len : ∀ {σ : L2.St} {δ : List (Option Sv)}, Sl G F ρ σ δ → σ.length = δ.length
  | _, _, .nil => rfl
  | _, _, .un r => by simp [Sl.len r]
  | _, _, .cons _ r => by simp [Sl.len r]
theorem RpL.len : ∀ {v : List V} {x : List D}, RpL G F v x → v.length = x.length
  | _, _, .nil => rfl
  | _, _, .cons _ r => by simp [RpL.len r]
theorem RsL.len : ∀ {v : List V} {x : List Sv}, RsL G F ρ v x → v.length = x.length
  | _, _, .nil => rfl
  | _, _, .cons _ r => by simp [RsL.len r]
theorem RsL.get : ∀ {v : List V} {x : List Sv} {i : Nat} {y : Sv}, RsL G F ρ v x → x[i]? = some y → ∃ u, v[i]? = some u ∧ Rs G F ρ u y
  | _, _, _, _, .nil, h => by simp at h
  | _, _, 0, _, .cons (v := u) q _, h => by simp at h; subst h; exact ⟨u, rfl, q⟩
  | _, _, i + 1, y, .cons _ r, h => by
    obtain ⟨u, e, q⟩ := RsL.get (i := i) (y := y) r (by simpa using h)
    exact ⟨u, by simpa using e, q⟩
theorem RsL.get' : ∀ {v : List V} {x : List Sv} {i : Nat} {u : V}, RsL G F ρ v x → v[i]? = some u → ∃ y, x[i]? = some y ∧ Rs G F ρ u y
  | _, _, _, _, .nil, h => by simp at h
  | _, _, 0, _, .cons (x := y) q _, h => by simp at h; subst h; exact ⟨y, rfl, q⟩
  | _, _, i + 1, u, .cons _ r, h => by
    obtain ⟨y, e, q⟩ := RsL.get' (i := i) (u := u) r (by simpa using h)
    exact ⟨y, by simpa using e, q⟩
theorem RsL.app : ∀ {v w : List V} {x y : List Sv}, RsL G F ρ v x → RsL G F ρ w y → RsL G F ρ (v ++ w) (x ++ y)
  | _, _, _, _, .nil, s => s
  | _, _, _, _, .cons h r, s => .cons h (RsL.app r s)
theorem RsL.take : ∀ {v : List V} {x : List Sv} (n : Nat), RsL G F ρ v x → RsL G F ρ (v.take n) (x.take n)
  | _, _, 0, _ => .nil
  | _, _, _ + 1, .nil => .nil
  | _, _, n + 1, .cons h r => .cons h (RsL.take n r)
theorem RsL.drop : ∀ {v : List V} {x : List Sv} (n : Nat), RsL G F ρ v x → RsL G F ρ (v.drop n) (x.drop n)
  | _, _, 0, r => r
  | _, _, _ + 1, .nil => .nil
  | _, _, n + 1, .cons _ r => RsL.drop n r
theorem RsL.rev : ∀ {v : List V} {x : List Sv}, RsL G F ρ v x → RsL G F ρ v.reverse x.reverse
  | _, _, .nil => .nil
  | _, _, .cons h r => by
    rw [List.reverse_cons, List.reverse_cons]
    exact (RsL.rev r).app (.cons h .nil)
theorem RsL.set {u : V} {y : Sv} (q : Rs G F ρ u y) : ∀ {v : List V} {x : List Sv} (i : Nat), RsL G F ρ v x → RsL G F ρ (v.set i u) (x.set i y)
  | _, _, _, .nil => .nil
  | _, _, 0, .cons _ r => .cons q r
  | _, _, i + 1, .cons h r => .cons h (RsL.set q i r)
theorem RsL.dropLast {v : List V} {x : List Sv} (r : RsL G F ρ v x) : RsL G F ρ v.dropLast x.dropLast := by
  rw [List.dropLast_eq_take, List.dropLast_eq_take, r.len]
  exact r.take _
theorem RsL.erase : ∀ {v : List V} {x : List Sv} (i : Nat), RsL G F ρ v x → RsL G F ρ (v.eraseIdx i) (x.eraseIdx i)
  | _, _, _, .nil => .nil
  | _, _, 0, .cons _ r => r
  | _, _, i + 1, .cons h r => .cons h (RsL.erase i r)
theorem RsL.ofD : ∀ {v : List V} {x : List D}, RpL G F v x → RsL G F ρ v (x.map Sv.d)
  | _, _, .nil => .nil
  | _, _, .cons h r => .cons (.d h) (RsL.ofD r)
theorem RsL.toD : ∀ {v : List V} {x : List D}, RsL G F ρ v (x.map Sv.d) → RpL G F v x
  | _, [], .nil => .nil
  | _, _ :: _, .cons (.d h) r => .cons h (RsL.toD r)
end

/-! ### the state -/
def CellOk (G : Gx) (F : Hp) (ρ : List Addr) (H : Hp) (a : Addr) : Cell → Prop
  | .lst xs => F a = none ∧ ∃ vs, H a = some (.lst vs) ∧ RsL G F ρ vs xs
  | .dct kvs => F a = none ∧ ∃ vs, H a = some (.dK vs) ∧ RsK G F ρ vs kvs
  | .ins c fs => F a = none ∧ ∃ dx vs, H a = some (.ins (G.cls c) dx vs) ∧ RsF G F ρ vs fs
  | .fz => True
structure Wf (G : Gx) (F : Hp) (ρ : List Addr) (μ : List Cell) (H : Hp) : Prop where
  ex : Ex F H
  len : ρ.length = μ.length
  nd : ρ.Nodup
  cell : ∀ (n : Nat) (a : Addr) (c : Cell), ρ[n]? = some a → μ[n]? = some c → CellOk G F ρ H a c
  dom : ∀ (a : Addr), a ∈ ρ → H a ≠ none
end Z
namespace Z
open PySem PySem.Spec PyProof.Rows L2

/-! ### what is carried out -/
structure Exn where
  c : String
  fs : List (String × D)
abbrev Dl := List (Option Sv)
abbrev Mu := List Cell
abbrev Rz (α : Type) := Option (Except Exn α × Mu)
abbrev Fz (α : Type) := Dl → Mu → Rz α
def Rz.bind {α β : Type} (r : Rz α) (k : α → Mu → Rz β) : Rz β := match r with
  | none => none
  | some (.error x, μ) => some (.error x, μ)
  | some (.ok a, μ) => k a μ
@[simp] theorem Rz.bind_ok {α β : Type} (a : α) (μ : Mu) (k : α → Mu → Rz β) : Rz.bind (some (.ok a, μ)) k = k a μ := rfl
@[simp] theorem Rz.bind_err {α β : Type} (x : Exn) (μ : Mu) (k : α → Mu → Rz β) : Rz.bind (some (.error x, μ)) k = some (.error x, μ) := rfl
@[simp] theorem Rz.bind_none {α β : Type} (k : α → Mu → Rz β) : Rz.bind none k = none := rfl

def XRel (G : Gx) (F : Hp) (cls : Value) (d : Option Addr) (x : Exn) : Prop :=
  cls = .ref (G.cls x.c) ∧ ((x.fs = [] ∧ d = none) ∨ ∃ dd vs, d = some dd ∧ F dd = some (.xd vs) ∧ RpF G F vs x.fs)
def Post (G : Gx) (W : WX) (σ : L2.St) (F : Hp) (ρ : List Addr) {α β : Type} (rel : Hp → List Addr → α → β → Prop) (Q : α → Hp → Prop) : Except Exn β × Mu → Prop
  | (.ok b, μ) => ∀ a F' ρ' H', Gr F F' ρ ρ' → Wf G F' ρ' μ H' → rel F' ρ' a b → Q a H'
  | (.error x, μ) => ∀ cls d F' ρ' H', Gr F F' ρ ρ' → Wf G F' ρ' μ H' → XRel G F' cls d x → W cls d σ H'
def zG (G : Gx) (W : WX) {α β : Type} (rel : Hp → List Addr → α → β → Prop) (f : Fz β) : L2.St → Hp → (α → Hp → Prop) → Prop := fun σ H Q =>
  ∃ F ρ δ μ r, Wf G F ρ μ H ∧ Sl G F ρ σ δ ∧ f δ μ = some r ∧ Post G W σ F ρ rel Q r
section
variable {G : Gx} {W : WX} {σ : L2.St} {F F1 : Hp} {ρ ρ1 : List Addr} {H : Hp} {δ : Dl} {μ : Mu} {α β α' β' : Type}
theorem Post.mono {rel : Hp → List Addr → α → β → Prop} {Q : α → Hp → Prop} (g : Gr F F1 ρ ρ1) : ∀ {r : Except Exn β × Mu}, Post G W σ F ρ rel Q r → Post G W σ F1 ρ1 rel Q r
  | (.ok _, _), p => fun a F' ρ' H' g' w r => p a F' ρ' H' (g.trans g') w r
  | (.error _, _), p => fun c d F' ρ' H' g' w r => p c d F' ρ' H' (g.trans g') w r
theorem Post.imp {rel : Hp → List Addr → α → β → Prop} {Q Q' : α → Hp → Prop} (h : ∀ a H, Q a H → Q' a H) : ∀ {r : Except Exn β × Mu}, Post G W σ F ρ rel Q r → Post G W σ F ρ rel Q' r
  | (.ok _, _), p => fun a F' ρ' H' g' w r => h _ _ (p a F' ρ' H' g' w r)
  | (.error _, _), p => p
theorem Post.ok {rel : Hp → List Addr → α → β → Prop} {Q : α → Hp → Prop} {b : β} (p : Post G W σ F ρ rel Q (.ok b, μ)) (w : Wf G F ρ μ H) {a : α} (r : rel F ρ a b) : Q a H := p a F ρ H (Gr.refl F ρ) w r
theorem zstep {f : Fz β'} {k : β' → Mu → Rz β} {r : Except Exn β × Mu} {rel : Hp → List Addr → α' → β' → Prop} {rel2 : Hp → List Addr → α → β → Prop} {Q2 : α → Hp → Prop} {Q : α' → Hp → Prop} (w : Wf G F ρ μ H) (s : Sl G F ρ σ δ)
    (e : (f δ μ).bind k = some r) (p : Post G W σ F ρ rel2 Q2 r)
    (cont : ∀ b μ1 a F1 ρ1 H1, Gr F F1 ρ ρ1 → Wf G F1 ρ1 μ1 H1 → Sl G F1 ρ1 σ δ → rel F1 ρ1 a b → k b μ1 = some r → Post G W σ F1 ρ1 rel2 Q2 r → Q a H1) : zG G W rel f σ H Q := by
  cases h : f δ μ with
  | none => rw [h] at e; cases e
  | some q =>
    obtain ⟨q, μ1⟩ := q
    rw [h] at e
    refine ⟨F, ρ, δ, μ, _, w, s, h, ?_⟩
    cases q with
    | error x =>
      have e' : (Except.error x, μ1) = r := Option.some.inj e
      subst e'
      exact p
    | ok b =>
      intro a F' ρ' H' g w' rr
      exact cont b μ1 a F' ρ' H' g w' (s.mono g) rr e (p.mono g)
/-- the last part -/
theorem zlast {f : Fz β} {r : Except Exn β × Mu} {rel : Hp → List Addr → α → β → Prop} {Q : α → Hp → Prop} (w : Wf G F ρ μ H) (s : Sl G F ρ σ δ) (e : f δ μ = some r) (p : Post G W σ F ρ rel Q r) : zG G W rel f σ H Q := ⟨F, ρ, δ, μ, r, w, s, e, p⟩
end
abbrev rEq3 {α : Type} : Hp → List Addr → α → α → Prop := fun _ _ a b => a = b
abbrev zE (G : Gx) (W : WX) (f : Fz Sv) : TE := zG G W (Rs G) f
abbrev zT (G : Gx) (W : WX) (f : Fz Bool) : TT := zG G W rEq3 f
abbrev zA (G : Gx) (W : WX) (f : Fz (List Sv)) : TA := zG G W (RsL G) f
abbrev zO (G : Gx) (W : WX) (f : Fz (Option Int)) : TO := zG G W rEq3 f

theorem peImp {X : Cx} {e : Expr} {t t' : TE} (h : PE X e t) (i : ∀ σ H Q, t' σ H Q → t σ H Q) : PE X e t' := ⟨fun pins s σ H Q I q => h.run pins s σ H Q I (i _ _ _ q)⟩
theorem ptImp {X : Cx} {e : Expr} {t t' : TT} (h : PT X e t) (i : ∀ σ H Q, t' σ H Q → t σ H Q) : PT X e t' := ⟨fun pins s σ H Q I q => h.run pins s σ H Q I (i _ _ _ q)⟩
theorem pwImp {X : Cx} {e : Expr} {t t' : TT} (h : PW X e t) (i : ∀ σ H Q, t' σ H Q → t σ H Q) : PW X e t' := ⟨fun wh pins s σ H Q I q => h.run wh pins s σ H Q I (i _ _ _ q)⟩
theorem paImp {X : Cx} {e : List Expr} {t t' : TA} (h : PA X e t) (i : ∀ σ H Q, t' σ H Q → t σ H Q) : PA X e t' := ⟨fun p pins s σ H Q I q => h.run p pins s σ H Q I (i _ _ _ q)⟩
theorem poImp {X : Cx} {e : Option Expr} {t t' : TO} (h : PO X e t) (i : ∀ σ H Q, t' σ H Q → t σ H Q) : PO X e t' := ⟨fun pins s σ H Q I q => h.run pins s σ H Q I (i _ _ _ q)⟩

/-! ### combinators -/
def fVar (i : Nat) : Fz Sv := fun δ μ => match δ[i]? with
  | some (some x) => some (.ok x, μ)
  | _ => none
def fC (d : D) : Fz Sv := fun _ μ => some (.ok (.d d), μ)
abbrev Op2 := Sv → Sv → Mu → Rz Sv
def fOp2 (o : Op2) (fa fb : Fz Sv) : Fz Sv := fun δ μ => (fa δ μ).bind fun a μ => (fb δ μ).bind fun b μ => o a b μ
abbrev Op1 := Sv → Mu → Rz Sv
def fOp1 (o : Op1) (fa : Fz Sv) : Fz Sv := fun δ μ => (fa δ μ).bind fun a μ => o a μ
def fNil : Fz (List Sv) := fun _ μ => some (.ok [], μ)
def fCons (fa : Fz Sv) (fr : Fz (List Sv)) : Fz (List Sv) := fun δ μ => (fa δ μ).bind fun a μ => (fr δ μ).bind fun r μ => some (.ok (a :: r), μ)
abbrev Opn := List Sv → Mu → Rz Sv
def fOpn (o : Opn) (fa : Fz (List Sv)) : Fz Sv := fun δ μ => (fa δ μ).bind fun a μ => o a μ
/-- tests -/
def fT (fa : Fz Sv) : Fz Bool := fun δ μ => (fa δ μ).bind fun a μ => match a with
  | .d (.bl b) => some (.ok b, μ)
  | _ => none
def fAnd (fa fb : Fz Bool) : Fz Bool := fun δ μ => (fa δ μ).bind fun a μ => if a = true then fb δ μ else some (.ok false, μ)
def fOr (fa fb : Fz Bool) : Fz Bool := fun δ μ => (fa δ μ).bind fun a μ => if a = true then some (.ok true, μ) else fb δ μ
def fNot (fa : Fz Bool) : Fz Bool := fun δ μ => (fa δ μ).bind fun a μ => some (.ok (!a), μ)
def fIf (fc : Fz Bool) (fa fb : Fz Sv) : Fz Sv := fun δ μ => (fc δ μ).bind fun c μ => if c = true then fa δ μ else fb δ μ
/-- a bool test as a value -/
def fV (fa : Fz Bool) : Fz Sv := fun δ μ => (fa δ μ).bind fun a μ => some (.ok (.d (.bl a)), μ)

section
variable {G : Gx} {X : Cx} {W : WX} {a b c e : Expr} {es : List Expr} {fa fb : Fz Sv} {fr : Fz (List Sv)} {pos : Pos} {ta tb : Fz Bool}
theorem z_var (i : Nat) {x : Str} (h : PE X (.Name x pos) (tVar i)) : PE X (.Name x pos) (zE G W (fVar i)) := peImp h fun σ H Q q => by
  obtain ⟨F, ρ, δ, μ, r, w, s, e, p⟩ := q
  unfold fVar at e
  split at e
  · rename_i y hy
    cases e
    obtain ⟨v, hv, rv⟩ := s.get hy
    exact ⟨v, hv, p.ok w rv⟩
  · cases e
theorem zC {v : V} {d : D} (hd : ∀ F, Rp G F v d) {σ : L2.St} {H : Hp} {Q : VK} (q : zE G W (fC d) σ H Q) : tC v σ H Q := by
  obtain ⟨F, ρ, δ, μ, r, w, s, e, p⟩ := q
  cases e
  exact p.ok w (.d (hd F))
theorem z_int {i : Int} {j} : PE X (.Constant (.int i) j pos) (zE G W (fC (.int i))) := peImp pe_int fun _ _ _ q => zC (fun _ => .int i) q
theorem z_bl {i : Bool} {j} : PE X (.Constant (.bool i) j pos) (zE G W (fC (.bl i))) := peImp pe_bl fun _ _ _ q => zC (fun _ => .bl i) q
theorem z_non {j} : PE X (.Constant .none j pos) (zE G W (fC .non)) := peImp pe_non fun _ _ _ q => zC (fun _ => .non) q
theorem z_str {x : Str} {j} (s : List Nat) (h : x.cps.toList = s) : PE X (.Constant (.str x) j pos) (zE G W (fC (.str s))) := peImp pe_str fun _ _ _ q => zC (fun _ => by rw [← h]; exact .str x) q

/-- a two-place operation is as o says -/
def SOp2 (G : Gx) (W : WX) (r : R2) (o : Op2) : Prop := ∀ (F : Hp) (ρ : List Addr) (μ : Mu) (H : Hp) (σ : L2.St) (x y : V) (a b : Sv) (rr : Except Exn Sv × Mu) (Q : VK),
  Wf G F ρ μ H → Rs G F ρ x a → Rs G F ρ y b → o a b μ = some rr → Post G W σ F ρ (Rs G) Q rr → r x y H Q
theorem zop2 {r : R2} {o : Op2} (so : SOp2 G W r o) {σ : L2.St} {H : Hp} {Q : VK} (q : zE G W (fOp2 o fa fb) σ H Q) : tOp r (zE G W fa) (zE G W fb) σ H Q := by
  obtain ⟨F, ρ, δ, μ, rr, w, s, e, p⟩ := q
  refine zstep w s e p fun sa μ1 x F1 ρ1 H1 g1 w1 s1 rx e1 p1 => ?_
  refine zstep w1 s1 e1 p1 fun sb μ2 y F2 ρ2 H2 g2 w2 s2 ry e2 p2 => ?_
  exact so F2 ρ2 μ2 H2 σ x y sa sb rr Q w2 (rx.mono g2) ry e2 p2
theorem z_bin {op : Operator} {r : R2} {o : Op2} (ho : OpR X (binaryOp op) r) (so : SOp2 G W r o) (ha : PE X a (zE G W fa)) (hb : PE X b (zE G W fb)) : PE X (.BinOp a op b pos) (zE G W (fOp2 o fa fb)) :=
  peImp (pe_op ho ha hb) fun _ _ _ q => zop2 so q
theorem z_cmp {op : CmpOp} {r : R2} {o : Op2} (ho : OpR X (compareOp op) r) (so : SOp2 G W r o) (ha : PE X a (zE G W fa)) (hb : PE X b (zE G W fb)) (hm : behindInMarks op b = false) : PE X (.Compare a [op] [b] pos) (zE G W (fOp2 o fa fb)) :=
  peImp (pe_cmpR ho ha hb hm) fun _ _ _ q => zop2 so q
theorem zT_of {t : TE} {f : Fz Sv} (hi : ∀ σ H Q, zE G W f σ H Q → t σ H Q) {σ : L2.St} {H : Hp} {Q : Bool → Hp → Prop} (q : zT G W (fT f) σ H Q) : tTest t σ H Q := by
  obtain ⟨F, ρ, δ, μ, rr, w, s, e, p⟩ := q
  refine hi _ _ _ (zstep w s e p fun sa μ1 x F1 ρ1 H1 g1 w1 s1 rx e1 p1 => ?_)
  split at e1
  · cases e1
    cases rx with
    | d rx => cases rx; exact ⟨_, rfl, p1.ok w1 rfl⟩
  · cases e1
theorem zt_cmp {op : CmpOp} {r : R2} {o : Op2} (ho : OpR X (compareOp op) r) (so : SOp2 G W r o) (ha : PE X a (zE G W fa)) (hb : PE X b (zE G W fb)) (hm : behindInMarks op b = false) : PT X (.Compare a [op] [b] pos) (zT G W (fT (fOp2 o fa fb))) :=
  ptImp (pt_cmpR ho ha hb hm) fun _ _ _ q => zT_of (fun _ _ _ q => zop2 so q) q
/-- an expression whose value is a bool, as a test -/
theorem zt_val (h : PE X e (zE G W fa)) (he : ∀ whole, isTrue e X.env whole = (do let v ← whole; standAt e.pos; holding [v] (truthy v)) := by intro _; rfl) : PT X e (zT G W (fT fa)) :=
  ptImp (pt_val h he) fun _ _ _ q => zT_of (fun _ _ _ q => q) q
theorem zw_and1 (ha : PT X a (zT G W ta)) : PW X (.BoolOp .And [a] pos) (zT G W ta) := pw_and1 ha
theorem zw_or1 (ha : PT X a (zT G W ta)) : PW X (.BoolOp .Or [a] pos) (zT G W ta) := pw_or1 ha
theorem zw_and (ha : PT X a (zT G W ta)) (hb : PW X (.BoolOp .And (b :: es) pos) (zT G W tb)) : PW X (.BoolOp .And (a :: b :: es) pos) (zT G W (fAnd ta tb)) := pwImp (pw_and ha hb) fun σ H Q q => by
  obtain ⟨F, ρ, δ, μ, rr, w, s, e, p⟩ := q
  refine zstep w s e p fun sa μ1 x F1 ρ1 H1 g1 w1 s1 rx e1 p1 => ?_
  subst rx
  cases x with
  | true => exact zlast w1 s1 e1 p1
  | false => cases e1; exact p1.ok w1 rfl
theorem zw_or (ha : PT X a (zT G W ta)) (hb : PW X (.BoolOp .Or (b :: es) pos) (zT G W tb)) : PW X (.BoolOp .Or (a :: b :: es) pos) (zT G W (fOr ta tb)) := pwImp (pw_or ha hb) fun σ H Q q => by
  obtain ⟨F, ρ, δ, μ, rr, w, s, e, p⟩ := q
  refine zstep w s e p fun sa μ1 x F1 ρ1 H1 g1 w1 s1 rx e1 p1 => ?_
  subst rx
  cases x with
  | true => cases e1; exact p1.ok w1 rfl
  | false => exact zlast w1 s1 e1 p1
theorem zt_not (ha : PT X a (zT G W ta)) : PT X (.UnaryOp .Not a pos) (zT G W (fNot ta)) := ptImp (pt_not ha) fun σ H Q q => by
  obtain ⟨F, ρ, δ, μ, rr, w, s, e, p⟩ := q
  refine zstep w s e p fun sa μ1 x F1 ρ1 H1 g1 w1 s1 rx e1 p1 => ?_
  subst rx
  cases e1
  exact p1.ok w1 rfl
theorem z_ife (hc : PT X c (zT G W ta)) (ha : PE X a (zE G W fa)) (hb : PE X b (zE G W fb)) : PE X (.IfExp c a b pos) (zE G W (fIf ta fa fb)) := peImp (pe_ifExp hc ha hb) fun σ H Q q => by
  obtain ⟨F, ρ, δ, μ, rr, w, s, e, p⟩ := q
  refine zstep w s e p fun sa μ1 x F1 ρ1 H1 g1 w1 s1 rx e1 p1 => ?_
  subst rx
  cases x with
  | true => exact zlast w1 s1 e1 p1
  | false => exact zlast w1 s1 e1 p1
/-- and, or, not as values (of bools) -/
def fAndV (fa fb : Fz Sv) : Fz Sv := fun δ μ => (fa δ μ).bind fun a μ => match a with
  | .d (.bl true) => fb δ μ
  | .d (.bl false) => some (.ok (.d (.bl false)), μ)
  | _ => none
def fOrV (fa fb : Fz Sv) : Fz Sv := fun δ μ => (fa δ μ).bind fun a μ => match a with
  | .d (.bl true) => some (.ok (.d (.bl true)), μ)
  | .d (.bl false) => fb δ μ
  | _ => none
def fNotV (fa : Fz Sv) : Fz Sv := fun δ μ => (fa δ μ).bind fun a μ => match a with
  | .d (.bl b) => some (.ok (.d (.bl (!b))), μ)
  | _ => none
theorem z_one {op} (h : PE X a (zE G W fa)) : PE X (.BoolOp op [a] pos) (zE G W fa) := pe_one h
theorem z_and (ha : PE X a (zE G W fa)) (hb : PE X (.BoolOp .And (b :: es) pos) (zE G W fb)) : PE X (.BoolOp .And (a :: b :: es) pos) (zE G W (fAndV fa fb)) := peImp (pe_and ha hb) fun σ H Q q => by
  obtain ⟨F, ρ, δ, μ, rr, w, s, e, p⟩ := q
  refine zstep w s e p fun sa μ1 x F1 ρ1 H1 g1 w1 s1 rx e1 p1 => ?_
  split at e1
  · cases rx with | d rx => cases rx; exact ⟨true, rfl, zlast w1 s1 e1 p1⟩
  · cases rx with | d rx => cases rx; cases e1; exact ⟨false, rfl, p1.ok w1 (.d (.bl false))⟩
  · cases e1
theorem z_or (ha : PE X a (zE G W fa)) (hb : PE X (.BoolOp .Or (b :: es) pos) (zE G W fb)) : PE X (.BoolOp .Or (a :: b :: es) pos) (zE G W (fOrV fa fb)) := peImp (pe_or ha hb) fun σ H Q q => by
  obtain ⟨F, ρ, δ, μ, rr, w, s, e, p⟩ := q
  refine zstep w s e p fun sa μ1 x F1 ρ1 H1 g1 w1 s1 rx e1 p1 => ?_
  split at e1
  · cases rx with | d rx => cases rx; cases e1; exact ⟨true, rfl, p1.ok w1 (.d (.bl true))⟩
  · cases rx with | d rx => cases rx; exact ⟨false, rfl, zlast w1 s1 e1 p1⟩
  · cases e1
theorem z_not (ha : PE X a (zE G W fa)) : PE X (.UnaryOp .Not a pos) (zE G W (fNotV fa)) := peImp (pe_not ha) fun σ H Q q => by
  obtain ⟨F, ρ, δ, μ, rr, w, s, e, p⟩ := q
  refine zstep w s e p fun sa μ1 x F1 ρ1 H1 g1 w1 s1 rx e1 p1 => ?_
  split at e1
  · cases rx with | d rx => cases rx; cases e1; exact ⟨_, rfl, p1.ok w1 (.d (.bl _))⟩
  · cases e1
/-- argument lists -/
theorem za_nil : PA X [] (zA G W fNil) := paImp pa_nil fun σ H Q q => by
  obtain ⟨F, ρ, δ, μ, rr, w, s, e, p⟩ := q
  cases e
  exact p.ok w .nil
theorem za_cons (ha : PE X e (zE G W fa)) (hr : PA X es (zA G W fr)) (hs : starEach (e :: es) X.env = (false, eval e X.env) :: starEach es X.env := by rfl) : PA X (e :: es) (zA G W (fCons fa fr)) := paImp (pa_cons ha hr hs) fun σ H Q q => by
  obtain ⟨F, ρ, δ, μ, rr, w, s, e, p⟩ := q
  refine zstep w s e p fun sa μ1 x F1 ρ1 H1 g1 w1 s1 rx e1 p1 => ?_
  refine zstep w1 s1 e1 p1 fun sb μ2 y F2 ρ2 H2 g2 w2 s2 ry e2 p2 => ?_
  cases e2
  exact p2.ok w2 (.cons (rx.mono g2) ry)
end
end Z
namespace Z
open PySem PySem.Spec PyProof.Rows L2
section
variable {G : Gx} {F : Hp} {ρ : List Addr} {μ : Mu} {H : Hp}
theorem CellOk.mono {F' : Hp} {ρ' : List Addr} {a : Addr} {c : Cell} (g : Gr F F' ρ ρ') (hF : F' a = F a) (h : CellOk G F ρ H a c) {H' : Hp} (hH : H' a = H a) : CellOk G F' ρ' H' a c := by
  cases c with
  | lst xs => obtain ⟨h0, vs, h1, h2⟩ := h; exact ⟨by rw [hF]; exact h0, vs, by rw [hH]; exact h1, h2.mono g⟩
  | dct xs => obtain ⟨h0, vs, h1, h2⟩ := h; exact ⟨by rw [hF]; exact h0, vs, by rw [hH]; exact h1, h2.mono g⟩
  | ins c xs => obtain ⟨h0, dx, vs, h1, h2⟩ := h; exact ⟨by rw [hF]; exact h0, dx, vs, by rw [hH]; exact h1, h2.mono g⟩
  | fz => trivial
theorem Wf.out (w : Wf G F ρ μ H) {p : Addr} (h : H p = none) : p ∉ ρ := fun hp => w.dom p hp h
/-- a new tree's object -/
theorem Wf.newD (w : Wf G F ρ μ H) {p : Addr} (h : H p = none) (o : HO) : Wf G (upd F p o) ρ μ (upd H p o) ∧ Gr F (upd F p o) ρ ρ := by
  have hF : F p = none := w.ex.none h
  have g : Gr F (upd F p o) ρ ρ := ⟨Ex.new hF, [], by simp⟩
  refine ⟨⟨fun a u e => ?_, w.len, w.nd, fun n a c h1 h2 => ?_, fun a ha => ?_⟩, g⟩
  · by_cases hp : a = p
    · subst hp; rw [upd_same] at e ⊢; exact e
    · rw [upd_ne hp] at e ⊢; exact w.ex a u e
  · have ne : a ≠ p := fun z => w.out h (by rw [← z]; exact List.mem_of_getElem? h1)
    exact (w.cell n a c h1 h2).mono g (upd_ne ne) (upd_ne ne)
  · have ne : a ≠ p := fun z => w.out h (by rw [← z]; exact ha)
    rw [upd_ne ne]; exact w.dom a ha
/-- a new cell -/
theorem Wf.newC (w : Wf G F ρ μ H) {p : Addr} (h : H p = none) {o : HO} {c : Cell} (hc : CellOk G F (ρ ++ [p]) (upd H p o) p c) : Wf G F (ρ ++ [p]) (μ ++ [c]) (upd H p o) ∧ Gr F F ρ (ρ ++ [p]) := by
  have g : Gr F F ρ (ρ ++ [p]) := ⟨Ex.refl F, [p], rfl⟩
  refine ⟨⟨w.ex.trans (Ex.new h), by simp [w.len], ?_, fun n a c' h1 h2 => ?_, fun a ha => ?_⟩, g⟩
  · rw [List.nodup_append]
    refine ⟨w.nd, by simp, fun a ha b hb => ?_⟩
    have : b = p := by simpa using hb
    subst this
    exact fun z => w.out h (by rw [← z]; exact ha)
  · by_cases hn : n < ρ.length
    · rw [List.getElem?_append_left hn] at h1
      rw [List.getElem?_append_left (by rw [← w.len]; exact hn)] at h2
      have ne : a ≠ p := fun z => w.out h (by rw [← z]; exact List.mem_of_getElem? h1)
      exact (w.cell n a c' h1 h2).mono g rfl (upd_ne ne)
    · have hn' : n = ρ.length := by
        have := (List.getElem?_eq_some_iff.mp h1).1
        simp at this; omega
      subst hn'
      have e1 : a = p := by simpa using h1.symm
      have e2 : c' = c := by rw [w.len] at h2; simpa using h2.symm
      subst e1; subst e2
      exact hc
  · rcases List.mem_append.mp ha with ha | ha
    · have ne : a ≠ p := fun z => w.out h (by rw [← z]; exact ha)
      rw [upd_ne ne]; exact w.dom a ha
    · have : a = p := by simpa using ha
      subst this
      rw [upd_same]; simp
/-- a cell is changed -/
theorem Wf.setC (w : Wf G F ρ μ H) {n : Nat} {a : Addr} (ha : ρ[n]? = some a) (hF : F a = none) {o : HO} {c : Cell} (hc : CellOk G F ρ (upd H a o) a c) : Wf G F ρ (μ.set n c) (upd H a o) := by
  refine ⟨fun b u e => ?_, by simp [w.len], w.nd, fun m b c' h1 h2 => ?_, fun b hb => ?_⟩
  · have ne : b ≠ a := fun z => by rw [z, hF] at e; cases e
    rw [upd_ne ne]; exact w.ex b u e
  · by_cases hm : n = m
    · subst hm
      rw [ha] at h1; cases h1
      have hn : n < μ.length := by rw [← w.len]; exact (List.getElem?_eq_some_iff.mp ha).1
      rw [List.getElem?_set_self hn] at h2; cases h2
      exact hc
    · rw [List.getElem?_set_ne hm] at h2
      have ne : b ≠ a := fun z => by
        subst z
        have h3 := (List.getElem?_inj (List.getElem?_eq_some_iff.mp ha).1 w.nd).mp (ha.trans h1.symm)
        exact hm h3
      exact (w.cell m b c' h1 h2).mono (Gr.refl F ρ) rfl (upd_ne ne)
  · by_cases z : b = a
    · subst z; rw [upd_same]; simp
    · rw [upd_ne z]; exact w.dom b hb
/-- a cell becomes a tree -/
theorem Wf.frz (w : Wf G F ρ μ H) {n : Nat} {a : Addr} (ha : ρ[n]? = some a) (hF : F a = none) {o : HO} (ho : H a = some o) : Wf G (upd F a o) ρ (μ.set n .fz) H ∧ Gr F (upd F a o) ρ ρ := by
  have g : Gr F (upd F a o) ρ ρ := ⟨Ex.new hF, [], by simp⟩
  refine ⟨⟨fun b u e => ?_, by simp [w.len], w.nd, fun m b c' h1 h2 => ?_, w.dom⟩, g⟩
  · by_cases z : b = a
    · subst z; rw [upd_same] at e; rw [← e]; exact ho
    · rw [upd_ne z] at e; exact w.ex b u e
  · by_cases hm : n = m
    · subst hm
      have hn : n < μ.length := by rw [← w.len]; exact (List.getElem?_eq_some_iff.mp ha).1
      rw [List.getElem?_set_self hn] at h2; cases h2
      trivial
    · rw [List.getElem?_set_ne hm] at h2
      have ne : b ≠ a := fun z => by
        subst z
        exact hm ((List.getElem?_inj (List.getElem?_eq_some_iff.mp ha).1 w.nd).mp (ha.trans h1.symm))
      exact (w.cell m b c' h1 h2).mono g (upd_ne ne) rfl
end
/-! ### what is not held any more goes -/
def flatS : Sv → Bool
  | .d _ => true
  | .c _ => false
def Cell.flat : Cell → Bool
  | .lst xs => xs.all flatS
  | .dct kvs => kvs.all fun p => flatS p.2
  | .ins _ fs => fs.all fun p => flatS p.2
  | .fz => true
def GcOk (μ0 μ : Mu) : Prop := μ0.length ≤ μ.length ∧ ∀ (i : Nat) (c : Cell), i < μ0.length → μ[i]? = some c → μ0[i]? = some c ∨ c.flat = true
open Classical in
noncomputable def gcM (μ0 μ : Mu) : Mu := if GcOk μ0 μ then μ.take μ0.length else μ
theorem gc_app (μ t : Mu) : gcM μ (μ ++ t) = μ := by
  have h : GcOk μ (μ ++ t) := ⟨by simp, fun i c hi hc => .inl (by rw [List.getElem?_append_left hi] at hc; exact hc)⟩
  unfold gcM
  rw [if_pos h]
  simp
theorem gc_self (μ : Mu) : gcM μ μ = μ := by
  have := gc_app μ []
  simpa using this
theorem gc_set (μ t : Mu) (k : Nat) (c : Cell) (hc : c.flat = true) : gcM μ (μ.set k c ++ t) = μ.set k c := by
  have h : GcOk μ (μ.set k c ++ t) := ⟨by simp, fun i c' hi hc' => by
    rw [List.getElem?_append_left (by simpa using hi)] at hc'
    by_cases hk : k = i
    · subst hk
      rw [List.getElem?_set_self hi] at hc'
      cases hc'
      exact .inr hc
    · rw [List.getElem?_set_ne hk] at hc'
      exact .inl hc'⟩
  unfold gcM
  rw [if_pos h]
  have : μ.length = (μ.set k c).length := by simp
  rw [this, List.take_left']
  rfl
theorem gc_set0 (μ : Mu) (k : Nat) (c : Cell) (hc : c.flat = true) : gcM μ (μ.set k c) = μ.set k c := by
  have := gc_set μ [] k c hc
  simpa using this
section
variable {G : Gx} {F F0 : Hp} {ρ ρ0 : List Addr} {μ μ0 : Mu} {H H0 : Hp}
theorem RsL.flat : ∀ {vs : List V} {xs : List Sv} {ρ' : List Addr}, xs.all flatS = true → RsL G F ρ vs xs → RsL G F ρ' vs xs
  | _, _, _, _, .nil => .nil
  | _, x :: xs, ρ', h, .cons r t => by
    simp only [List.all_cons, Bool.and_eq_true] at h
    cases r with
    | d r => exact .cons (.d r) (RsL.flat h.2 t)
    | c r => exact absurd h.1 (by simp [flatS])
theorem RsK.flat : ∀ {vs : List (Key × V)} {xs : List (Key × Sv)} {ρ' : List Addr}, (xs.all fun p => flatS p.2) = true → RsK G F ρ vs xs → RsK G F ρ' vs xs
  | _, _, _, _, .nil => .nil
  | _, (k, x) :: xs, ρ', h, .cons r t => by
    simp only [List.all_cons, Bool.and_eq_true] at h
    cases r with
    | d r => exact .cons (.d r) (RsK.flat h.2 t)
    | c r => exact absurd h.1 (by simp [flatS])
theorem RsF.flat : ∀ {vs : List (Str × V)} {xs : List (String × Sv)} {ρ' : List Addr}, (xs.all fun p => flatS p.2) = true → RsF G F ρ vs xs → RsF G F ρ' vs xs
  | _, _, _, _, .nil => .nil
  | _, (k, x) :: xs, ρ', h, .cons r t => by
    simp only [List.all_cons, Bool.and_eq_true] at h
    cases r with
    | d r => exact .cons (.d r) (RsF.flat h.2 t)
    | c r => exact absurd h.1 (by simp [flatS])
theorem Rs.low {v : V} {x : Sv} (g : Gr F0 F ρ0 ρ) : Rs G F0 ρ0 v x → ∃ y, Rs G F ρ0 v y ∧ y = x
  | .d r => ⟨_, .d (r.mono g.f), rfl⟩
  | .c h => ⟨_, .c h, rfl⟩
/-- the same cell, told by the elder addresses: its items stood there already -/
theorem RsL.back : ∀ {vs vs' : List V} {xs : List Sv}, Gr F0 F ρ0 ρ → RsL G F0 ρ0 vs' xs → RsL G F ρ vs xs → RsL G F ρ0 vs xs
  | _, _, _, _, .nil, .nil => .nil
  | _, _, _, g, .cons r0 t0, .cons r t => by
    refine .cons ?_ (RsL.back g t0 t)
    cases r with
    | d r => exact .d r
    | c h =>
      cases r0 with
      | c h0 => rw [g.at h0] at h; cases h; exact .c h0
theorem RsK.back : ∀ {vs vs' : List (Key × V)} {xs : List (Key × Sv)}, Gr F0 F ρ0 ρ → RsK G F0 ρ0 vs' xs → RsK G F ρ vs xs → RsK G F ρ0 vs xs
  | _, _, _, _, .nil, .nil => .nil
  | _, _, _, g, .cons r0 t0, .cons r t => by
    refine .cons ?_ (RsK.back g t0 t)
    cases r with
    | d r => exact .d r
    | c h =>
      cases r0 with
      | c h0 => rw [g.at h0] at h; cases h; exact .c h0
theorem RsF.back : ∀ {vs vs' : List (Str × V)} {xs : List (String × Sv)}, Gr F0 F ρ0 ρ → RsF G F0 ρ0 vs' xs → RsF G F ρ vs xs → RsF G F ρ0 vs xs
  | _, _, _, _, .nil, .nil => .nil
  | _, _, _, g, .cons r0 t0, .cons r t => by
    refine .cons ?_ (RsF.back g t0 t)
    cases r with
    | d r => exact .d r
    | c h =>
      cases r0 with
      | c h0 => rw [g.at h0] at h; cases h; exact .c h0
/-- what was laid since ρ0 is forgotten -/
theorem Wf.gc (w0 : Wf G F0 ρ0 μ0 H0) (g : Gr F0 F ρ0 ρ) (w : Wf G F ρ μ H) : ∃ ρ', (ρ' = ρ ∨ ρ' = ρ0) ∧ Gr F0 F ρ0 ρ' ∧ Wf G F ρ' (gcM μ0 μ) H := by
  unfold gcM
  by_cases h : GcOk μ0 μ
  · rw [if_pos h]
    obtain ⟨t, ht⟩ := g.r
    refine ⟨ρ0, .inr rfl, ⟨g.f, [], by simp⟩, ⟨w.ex, ?_, w0.nd, fun n a c h1 h2 => ?_, fun a ha => w.dom a (by rw [ht]; exact List.mem_append_left _ ha)⟩⟩
    · rw [List.length_take, w0.len]; have := h.1; omega
    · have hn : n < μ0.length := by rw [← w0.len]; exact (List.getElem?_eq_some_iff.mp h1).1
      rw [List.getElem?_take_of_lt hn] at h2
      have ok := w.cell n a c (g.at h1) h2
      rcases h.2 n c hn h2 with q | q
      · have ok0 := w0.cell n a c h1 q
        cases c with
        | lst xs => obtain ⟨z, vs, e, r⟩ := ok; obtain ⟨_, vs', _, r'⟩ := ok0; exact ⟨z, vs, e, RsL.back g r' r⟩
        | dct xs => obtain ⟨z, vs, e, r⟩ := ok; obtain ⟨_, vs', _, r'⟩ := ok0; exact ⟨z, vs, e, RsK.back g r' r⟩
        | ins c xs => obtain ⟨z, dx, vs, e, r⟩ := ok; obtain ⟨_, _, vs', _, r'⟩ := ok0; exact ⟨z, dx, vs, e, RsF.back g r' r⟩
        | fz => trivial
      · cases c with
        | lst xs => obtain ⟨z, vs, e, r⟩ := ok; exact ⟨z, vs, e, r.flat q⟩
        | dct xs => obtain ⟨z, vs, e, r⟩ := ok; exact ⟨z, vs, e, r.flat q⟩
        | ins c xs => obtain ⟨z, dx, vs, e, r⟩ := ok; exact ⟨z, dx, vs, e, r.flat q⟩
        | fz => trivial
  · rw [if_neg h]
    exact ⟨ρ, .inl rfl, g, w⟩
end
end Z
namespace Z
open PySem PySem.Spec PyProof.Rows L2

/-! ### statements -/
inductive Fl where
  | nx | bk | ct | rt (v : Sv) | ex (x : Exn)
abbrev Sr := Option (Fl × Dl × Mu)
abbrev Sz := Dl → Mu → Sr
def eS {α : Type} (r : Rz α) (δ : Dl) (k : α → Mu → Sr) : Sr := match r with
  | none => none
  | some (.error x, μ) => some (.ex x, δ, μ)
  | some (.ok a, μ) => k a μ
@[simp] theorem eS_ok {α : Type} (a : α) (μ : Mu) (δ : Dl) (k : α → Mu → Sr) : eS (some (.ok a, μ)) δ k = k a μ := rfl
@[simp] theorem eS_err {α : Type} (x : Exn) (μ : Mu) (δ : Dl) (k : α → Mu → Sr) : eS (some (.error x, μ)) δ k = some (.ex x, δ, μ) := rfl
@[simp] theorem eS_none {α : Type} (δ : Dl) (k : α → Mu → Sr) : eS none δ k = none := rfl
def sThen (r : Sr) (T : Sz) : Sr := match r with
  | some (.nx, δ, μ) => T δ μ
  | r => r
@[simp] theorem sThen_nx (δ : Dl) (μ : Mu) (T : Sz) : sThen (some (.nx, δ, μ)) T = T δ μ := rfl
@[simp] theorem sThen_bk (δ : Dl) (μ : Mu) (T : Sz) : sThen (some (.bk, δ, μ)) T = some (.bk, δ, μ) := rfl
@[simp] theorem sThen_ct (δ : Dl) (μ : Mu) (T : Sz) : sThen (some (.ct, δ, μ)) T = some (.ct, δ, μ) := rfl
@[simp] theorem sThen_rt (v : Sv) (δ : Dl) (μ : Mu) (T : Sz) : sThen (some (.rt v, δ, μ)) T = some (.rt v, δ, μ) := rfl
@[simp] theorem sThen_ex (x : Exn) (δ : Dl) (μ : Mu) (T : Sz) : sThen (some (.ex x, δ, μ)) T = some (.ex x, δ, μ) := rfl
@[simp] theorem sThen_none (T : Sz) : sThen none T = none := rfl

def PostS (G : Gx) (W : WX) (F : Hp) (ρ : List Addr) (D : Ends) : Fl × Dl × Mu → Prop
  | (.nx, δ, μ) => ∀ σ' F' ρ' H', Gr F F' ρ ρ' → Wf G F' ρ' μ H' → Sl G F' ρ' σ' δ → D.nx σ' H'
  | (.bk, δ, μ) => ∀ σ' F' ρ' H', Gr F F' ρ ρ' → Wf G F' ρ' μ H' → Sl G F' ρ' σ' δ → D.bk σ' H'
  | (.ct, δ, μ) => ∀ σ' F' ρ' H', Gr F F' ρ ρ' → Wf G F' ρ' μ H' → Sl G F' ρ' σ' δ → D.ct σ' H'
  | (.rt v, _, μ) => ∀ a F' ρ' H', Gr F F' ρ ρ' → Wf G F' ρ' μ H' → Rs G F' ρ' a v → D.rt a H'
  | (.ex x, δ, μ) => ∀ cls d σ' F' ρ' H', Gr F F' ρ ρ' → Wf G F' ρ' μ H' → Sl G F' ρ' σ' δ → XRel G F' cls d x → W cls d σ' H'
def zS (G : Gx) (W : WX) (S : Sz) : TS := fun D σ H => ∃ F ρ δ μ r, Wf G F ρ μ H ∧ Sl G F ρ σ δ ∧ S δ μ = some r ∧ PostS G W F ρ D r
section
variable {G : Gx} {W : WX} {σ : L2.St} {F F1 : Hp} {ρ ρ1 : List Addr} {H : Hp} {δ : Dl} {μ : Mu} {α α' β' : Type} {D : Ends}
theorem PostS.mono (g : Gr F F1 ρ ρ1) : ∀ {r : Fl × Dl × Mu}, PostS G W F ρ D r → PostS G W F1 ρ1 D r
  | (.nx, _, _), p => fun σ' F' ρ' H' g' w s => p σ' F' ρ' H' (g.trans g') w s
  | (.bk, _, _), p => fun σ' F' ρ' H' g' w s => p σ' F' ρ' H' (g.trans g') w s
  | (.ct, _, _), p => fun σ' F' ρ' H' g' w s => p σ' F' ρ' H' (g.trans g') w s
  | (.rt _, _, _), p => fun a F' ρ' H' g' w s => p a F' ρ' H' (g.trans g') w s
  | (.ex _, _, _), p => fun c d σ' F' ρ' H' g' w s => p c d σ' F' ρ' H' (g.trans g') w s
/-- an expression within a statement -/
theorem zstepS {f : Fz β'} {k : β' → Mu → Sr} {r : Fl × Dl × Mu} {rel : Hp → List Addr → α' → β' → Prop} {Q : α' → Hp → Prop} (w : Wf G F ρ μ H) (s : Sl G F ρ σ δ)
    (e : eS (f δ μ) δ k = some r) (p : PostS G W F ρ D r)
    (cont : ∀ b μ1 a F1 ρ1 H1, Gr F F1 ρ ρ1 → Wf G F1 ρ1 μ1 H1 → Sl G F1 ρ1 σ δ → rel F1 ρ1 a b → k b μ1 = some r → PostS G W F1 ρ1 D r → Q a H1) : zG G W rel f σ H Q := by
  cases h : f δ μ with
  | none => rw [h] at e; cases e
  | some q =>
    obtain ⟨q, μ1⟩ := q
    rw [h] at e
    refine ⟨F, ρ, δ, μ, _, w, s, h, ?_⟩
    cases q with
    | error x =>
      have e' : (Fl.ex x, δ, μ1) = r := Option.some.inj e
      subst e'
      exact fun cls d F' ρ' H' g w' x => p cls d σ F' ρ' H' g w' (s.mono g) x
    | ok b => exact fun a F' ρ' H' g w' rr => cont b μ1 a F' ρ' H' g w' (s.mono g) rr e (p.mono g)
theorem PostS.nx {r : Fl × Dl × Mu} (p : PostS G W F ρ D r) (e : r = (.nx, δ, μ)) (w : Wf G F ρ μ H) (s : Sl G F ρ σ δ) : D.nx σ H := by
  subst e; exact p σ F ρ H (Gr.refl F ρ) w s
end

def sNil : Sz := fun δ μ => some (.nx, δ, μ)
def sSeq (S T : Sz) : Sz := fun δ μ => sThen (S δ μ) T
def sSet (i : Nat) (f : Fz Sv) : Sz := fun δ μ => eS (f δ μ) δ fun a μ => some (.nx, δ.set i (some a), μ)
def sEx (f : Fz Sv) : Sz := fun δ μ => eS (f δ μ) δ fun _ μ => some (.nx, δ, μ)
def sRet (f : Fz Sv) : Sz := fun δ μ => eS (f δ μ) δ fun a μ => some (.rt a, δ, μ)
def sRetN : Sz := fun δ μ => some (.rt (.d .non), δ, μ)
def sIf (c : Fz Bool) (S T : Sz) : Sz := fun δ μ => eS (c δ μ) δ fun b μ => if b = true then S δ μ else T δ μ
def sBrk : Sz := fun δ μ => some (.bk, δ, μ)
def sCnt : Sz := fun δ μ => some (.ct, δ, μ)

theorem pssImp {X : Cx} {st : List Stmt} {t t' : TS} (h : PSs X st t) (i : ∀ D σ H, t' D σ H → t D σ H) : PSs X st t' := ⟨fun pins s σ H D I q => h.run pins s σ H D I (i _ _ _ q)⟩
theorem psImp {X : Cx} {st : Stmt} {t t' : TS} (h : PS X st t) (i : ∀ D σ H, t' D σ H → t D σ H) : PS X st t' := ⟨fun pins s σ H D I q => h.run pins s σ H D I (i _ _ _ q)⟩

section
variable {G : Gx} {X : Cx} {W : WX} {a b c e : Expr} {es : List Expr} {st : Stmt} {rest sa sb : List Stmt} {fa fb : Fz Sv} {fr : Fz (List Sv)} {pos : Pos} {ta tb : Fz Bool} {S T : Sz}
theorem zs_nil : PSs X [] (zS G W sNil) := pssImp pss_nil fun D σ H q => by
  obtain ⟨F, ρ, δ, μ, r, w, s, e, p⟩ := q
  cases e
  exact p.nx rfl w s
theorem zs_cons (h1 : PS X st (zS G W S)) (h2 : PSs X rest (zS G W T)) : PSs X (st :: rest) (zS G W (sSeq S T)) := pssImp (pss_cons h1 h2) fun D σ H q => by
  obtain ⟨F, ρ, δ, μ, r, w, s, e, p⟩ := q
  unfold sSeq at e
  cases h : S δ μ with
  | none => rw [h] at e; cases e
  | some q =>
    obtain ⟨f, δ1, μ1⟩ := q
    rw [h] at e
    refine ⟨F, ρ, δ, μ, _, w, s, h, ?_⟩
    cases f with
    | nx => exact fun σ' F' ρ' H' g w' s' => ⟨F', ρ', δ1, μ1, r, w', s', e, p.mono g⟩
    | bk => cases e; exact p
    | ct => cases e; exact p
    | rt v => cases e; exact p
    | ex x => cases e; exact p
theorem zs_one (h1 : PS X st (zS G W S)) : PSs X [st] (zS G W S) := pss_one h1
theorem zs_set {i : Nat} {x : Str} {p2 : Pos} (hg : PG X (.Name x p2) (gName i)) (ha : PE X e (zE G W fa)) (hs : swapsWithSole [.Name x p2] e pos.line X.env = pure false := by rfl) (hw : swappedStores [.Name x p2] e X.env = pure none := by rfl) :
    PS X (.Assign [.Name x p2] e pos) (zS G W (sSet i fa)) := psImp (ps_asg ha hg hs hw) fun D σ H q => by
  obtain ⟨F, ρ, δ, μ, r, w, s, e, p⟩ := q
  refine zstepS w s e p fun sa μ1 x F1 ρ1 H1 g1 w1 s1 rx e1 p1 => ?_
  cases e1
  exact p1.nx rfl w1 (s1.set rx i)
theorem zs_ex (ha : PE X e (zE G W fa)) (hs : swapsWith e none pos.line X.env = pure false := by rfl) : PS X (.Expr e pos) (zS G W (sEx fa)) := psImp (ps_expr ha hs) fun D σ H q => by
  obtain ⟨F, ρ, δ, μ, r, w, s, e, p⟩ := q
  refine zstepS w s e p fun sa μ1 x F1 ρ1 H1 g1 w1 s1 rx e1 p1 => ?_
  cases e1
  exact p1.nx rfl w1 s1
theorem zs_ret (ha : PE X e (zE G W fa)) : PS X (.Return (some e) pos) (zS G W (sRet fa)) := psImp (ps_ret ha) fun D σ H q => by
  obtain ⟨F, ρ, δ, μ, r, w, s, e, p⟩ := q
  refine zstepS w s e p fun sa μ1 x F1 ρ1 H1 g1 w1 s1 rx e1 p1 => ?_
  cases e1
  exact p1 x F1 ρ1 H1 (Gr.refl F1 ρ1) w1 rx
theorem zs_retN : PS X (.Return none pos) (zS G W sRetN) := psImp ps_retN fun D σ H q => by
  obtain ⟨F, ρ, δ, μ, r, w, s, e, p⟩ := q
  cases e
  exact p _ F ρ H (Gr.refl F ρ) w (.d .non)
theorem zs_if (hc : PT X c (zT G W ta)) (ha : PSs X sa (zS G W S)) (hb : PSs X sb (zS G W T)) : PS X (.If c sa sb pos) (zS G W (sIf ta S T)) := psImp (ps_if hc ha hb) fun D σ H q => by
  obtain ⟨F, ρ, δ, μ, r, w, s, e, p⟩ := q
  refine zstepS w s e p fun sa μ1 x F1 ρ1 H1 g1 w1 s1 rx e1 p1 => ?_
  subst rx
  cases x with
  | true => exact ⟨F1, ρ1, δ, μ1, r, w1, s1, e1, p1⟩
  | false => exact ⟨F1, ρ1, δ, μ1, r, w1, s1, e1, p1⟩
theorem zs_pass : PS X (.Pass pos) (zS G W sNil) := psImp ps_pass fun D σ H q => by
  obtain ⟨F, ρ, δ, μ, r, w, s, e, p⟩ := q
  cases e
  exact p.nx rfl w s
theorem zs_brk : PS X (.Break pos) (zS G W sBrk) := psImp ps_break fun D σ H q => by
  obtain ⟨F, ρ, δ, μ, r, w, s, e, p⟩ := q
  cases e
  exact p σ F ρ H (Gr.refl F ρ) w s
theorem zs_cnt : PS X (.Continue pos) (zS G W sCnt) := psImp ps_continue fun D σ H q => by
  obtain ⟨F, ρ, δ, μ, r, w, s, e, p⟩ := q
  cases e
  exact p σ F ρ H (Gr.refl F ρ) w s
end

/-! ### defs -/
abbrev Fn := List Sv → Mu → Rz Sv
def spF (G : Gx) (fn : Fn) : Sp := fun vs H Q E => ∃ F ρ μ svs r, Wf G F ρ μ H ∧ RsL G F ρ vs svs ∧ fn svs μ = some r ∧ Post G (fun c d _ H => E c d H) [] F ρ (Rs G) Q r
/-- a body of nl slots, run -/
noncomputable def runB (n nl : Nat) (S : Sz) : Fn := fun svs μ => if svs.length = n then (match S (svs.map some ++ List.replicate (nl - svs.length) none) μ with
  | some (.rt (.d x), _, μ') => some (.ok (.d x), gcM μ μ')
  | some (.rt (.c m), _, μ') => some (.ok (.c m), μ')
  | some (.nx, _, μ') => some (.ok (.d .non), gcM μ μ')
  | some (.ex x, _, μ') => some (.error x, gcM μ μ')
  | _ => none) else none
theorem Sl.start {G : Gx} {F : Hp} {ρ : List Addr} : ∀ {vs : List V} {svs : List Sv} (m : Nat), RsL G F ρ vs svs → Sl G F ρ (vs.map some ++ List.replicate m none) (svs.map some ++ List.replicate m none)
  | _, _, m, .nil => by
    induction m with
    | zero => exact .nil
    | succ m ih => rw [List.replicate_succ, List.replicate_succ]; exact .un ih
  | _, _, m, .cons r t => .cons r (Sl.start m t)
section
variable {P : Program} {w : World} {mg : Str → Option Value} {base : Heap} {G : Gx}
/-- around a body: what a callee may let out is taken -/
def Pz (X : Cx) (W : WX) : Prop := ∀ σ, PassesAt (L2.CX X.prog X.w) X σ (fun c d H => W c d σ H)
theorem pz_takes {X : Cx} {W : WX} (tk : Takes X W) : Pz X W := fun σ => passAt tk σ
theorem pz_never {X : Cx} : Pz X (fun _ _ _ _ => False) := fun σ pins H s e s' I h => by
  obtain ⟨_, _, _, _, _, _, _, _, _, _, _, _, z⟩ := h
  exact z.elim
/-- THE RULE: a def of the text keeps the promise of its body's function -/
theorem ok_def {x qual : Str} {st : Stmt} {f : Addr} {fd : FuncData} {N ps : List Str} {k : Nat} {S : Sz} (Fu : Fun G.K x qual st f fd) (Sc : FnScope N ps (defScope st))
    (body : ∀ (cdv : Value) (A : Around) (outer : List Env) (s : Shared) (H : Hp) (E : XK), Room k (A.deeper (envOfC qual (defScope st) s.heap.objs.size f cdv)) →
      PSs (cxOf (L2.CX P w) P w G.K mg base N qual (defScope st) f cdv A outer s H E) (defBody st) (zS G (fun c d _ H => E c d H) S)) :
    FnOk P w G.K mg base (L2.CX P w) (k + 1) f fd ps (spF G (runB ps.length N.length S)) := by
  refine Fu.okX Sc (fun vs H Q E h => by
    obtain ⟨F, ρ, μ, svs, r, wf, rs, e, p⟩ := h
    unfold runB at e
    split at e
    · rename_i q; rw [rs.len]; exact q
    · cases e) (fun cdv A outer s H vs Q E hr h => ?_)
  obtain ⟨F, ρ, μ, svs, r, wf, rs, e, p⟩ := h
  refine ⟨_, body cdv A outer s H E hr, ?_⟩
  unfold runB at e
  split at e
  case isFalse => cases e
  have sl := Sl.start (N.length - svs.length) rs
  cases h : S (svs.map some ++ List.replicate (N.length - svs.length) none) μ with
  | none => rw [h] at e; cases e
  | some q =>
    obtain ⟨fl, δ1, μ1⟩ := q
    rw [h] at e
    refine ⟨F, ρ, _, μ, _, wf, (by unfold L2.start; rw [rs.len]; exact sl), h, ?_⟩
    cases fl with
    | nx =>
      cases e
      intro σ' F' ρ' H' g w' s'
      obtain ⟨ρ2, _, g2, w2⟩ := wf.gc g w'
      exact p .non F' ρ2 H' g2 w2 (.d .non)
    | bk => cases e
    | ct => cases e
    | rt v =>
      cases v with
      | d x =>
        cases e
        intro a F' ρ' H' g w' s'
        obtain ⟨ρ2, _, g2, w2⟩ := wf.gc g w'
        cases s' with
        | d s' => exact p a F' ρ2 H' g2 w2 (.d s')
      | c m => cases e; exact fun a F' ρ' H' g w' s' => p a F' ρ' H' g w' s'
    | ex x =>
      cases e
      intro c d σ' F' ρ' H' g w' s' xr
      obtain ⟨ρ2, _, g2, w2⟩ := wf.gc g w'
      exact p c d F' ρ2 H' g2 w2 xr
end

/-! ### calls -/
def fCall (fn : Fn) (ds : List D) (fa : Fz (List Sv)) : Fz Sv := fun δ μ => (fa δ μ).bind fun as μ => fn (as ++ ds.map Sv.d) μ
section
variable {G : Gx} {X : Cx} {W : WX} {k : Nat} {f C : Addr} {fd : FuncData} {ps : List Str} {fn : Fn} {dvs : List V} {dds : List D} {ds : List Value} {x m : Str} {p pos apos : Pos} {e o : Expr} {es : List Expr} {fa fo : Fz Sv} {fr : Fz (List Sv)}
theorem runz {pins : List (Addr × Obj)} {σ : L2.St} {H : Hp} {s : Shared} {Q : VK} {us : List Value} {vs : List V} (Fo : FnOk X.prog X.w X.K X.mg X.base (L2.CX X.prog X.w) k f fd ps (spF G fn)) (hr : Room k X.A) (hb : Binds X.K fd ps ds) (hd : Vals dvs ds)
    (px : Pz X W) (I : Inv X pins σ H s) (r : Vals vs us) (h : spF G fn (vs ++ dvs) H Q (fun c d H => W c d σ H)) : wpAny (model X.prog X.w) X.A (call (.ref f) us) (EP X pins σ Q) X.xe s := by
  have r2 := r.append hd
  have hl : (us ++ ds).length = ps.length := r2.length.symm.trans (Fo.len _ _ _ _ h)
  refine wpAny_call (codeAny_mono (Fo.run X.A X.stack s H ⟨us, []⟩ (us ++ ds) (vs ++ dvs) Q _ hr I.env0 (hb s us I.kIn hl) r2 h) fun r s' hq => ?_)
  match r, hq with
  | .error e, hq => exact px σ pins H s e s' I hq
  | .ok (.ret u), hq => exact I.after hq
theorem spF_of {F : Hp} {ρ : List Addr} {μ : Mu} {H : Hp} {vs : List V} {svs : List Sv} {σ : L2.St} {Q : VK} {rr : Except Exn Sv × Mu} (w : Wf G F ρ μ H) (r : RsL G F ρ vs svs) (hd : RpL G F dvs dds)
    (e : fn (svs ++ dds.map Sv.d) μ = some rr) (p : Post G W σ F ρ (Rs G) Q rr) : spF G fn (vs ++ dvs) H Q (fun c d H => W c d σ H) :=
  ⟨F, ρ, μ, svs ++ dds.map Sv.d, rr, w, r.app (RsL.ofD hd), e, by
    obtain ⟨a, μ1⟩ := rr
    cases a with
    | ok a => exact p
    | error a => exact p⟩
end
end Z
namespace Z
open PySem PySem.Spec PyProof.Rows L2
section
variable {G : Gx} {X : Cx} {W : WX} {k : Nat} {f C : Addr} {fd : FuncData} {ps : List Str} {fn : Fn} {dvs : List V} {dds : List D} {ds : List Value} {x m : Str} {p pos apos : Pos} {e o : Expr} {es : List Expr} {fa fo : Fz Sv} {fr : Fz (List Sv)}
/-- f(a, ..) -/
theorem z_call (Fo : FnOk X.prog X.w X.K X.mg X.base (L2.CX X.prog X.w) k f fd ps (spF G fn)) (hr : Room k X.A) (hg : Gl X x) (hm : X.mg x = some (.ref f)) (hk : PySem.W.keepIn X.K (.ref f) = true) (hb : Binds X.K fd ps ds) (hd : Vals dvs ds) (hdd : ∀ F, RpL G F dvs dds) (px : Pz X W)
    (ha : PA X (e :: es) (zA G W fr)) (hdb : (x == ("__debug__" : Str)) = false := by decide) (he : starEach (e :: es) X.env = (false, eval e X.env) :: starEach es X.env := by rfl) (hpl : (backTo pos (starEach es X.env)).any (·.1) = false := by rfl) :
    PE X (.Call (.Name x p) (e :: es) [] pos) (zE G W (fCall fn dds fr)) := ⟨fun pins s σ H Q I q => by
  obtain ⟨F, ρ, δ, μ, r, wf, sl, eq, po⟩ := q
  have q2 : zA G W fr σ H (fun vs H1 => spF G fn (vs ++ dvs) H1 Q (fun c d H => W c d σ H)) :=
    zstep wf sl eq po fun sa μ1 vs F1 ρ1 H1 g1 w1 s1 rx e1 p1 => spF_of w1 rx (hdd F1) e1 p1
  refine wpAny_Call_Name_kw (ld_glob I hg hm ?_ hdb)
  refine PySem.W.callWith_K (h₀ := X.base) I.ok.mod.kin hk (thn (ha.run pos pins s σ H _ I q2) ?_) he hpl
  exact fun us s1 ⟨vs, H1, I1, r, q3⟩ => ⟨I1.kIn, runz Fo hr hb hd px I1 r q3⟩⟩
theorem z_call0 (Fo : FnOk X.prog X.w X.K X.mg X.base (L2.CX X.prog X.w) k f fd ps (spF G fn)) (hr : Room k X.A) (hg : Gl X x) (hm : X.mg x = some (.ref f)) (hk : PySem.W.keepIn X.K (.ref f) = true) (hb : Binds X.K fd ps ds) (hd : Vals dvs ds) (hdd : ∀ F, RpL G F dvs dds) (px : Pz X W)
    (hdb : (x == ("__debug__" : Str)) = false := by decide) : PE X (.Call (.Name x p) [] [] pos) (zE G W (fCall fn dds fNil)) := ⟨fun pins s σ H Q I q => by
  obtain ⟨F, ρ, δ, μ, r, wf, sl, eq, po⟩ := q
  refine wpAny_Call_Name_kw (ld_glob I hg hm ?_ hdb)
  exact PySem.W.callWith_K0 I.kIn hk (runz (us := []) (vs := []) Fo hr hb hd px I .nil (spF_of wf .nil (hdd F) eq po))⟩

/-- a method, by the receiver's class; ms: the classes that are looked for, each with its function and defaults -/
def clsOf (μ : Mu) : Sv → Option String
  | .d (.ins c _) => some c
  | .c n => match μ[n]? with
    | some (.ins c _) => some c
    | _ => none
  | _ => none
def noFld (μ : Mu) (m : String) : Sv → Bool
  | .d (.ins _ fs) => (fs.lookup m).isNone
  | .c n => match μ[n]? with
    | some (.ins _ fs) => (fs.lookup m).isNone
    | _ => false
  | _ => false
def pick (m : String) (ms : List (String × Fn × List D)) (μ : Mu) (o : Sv) : Option (Fn × List D) := if noFld μ m o = true then (clsOf μ o).bind fun c => ms.lookup c else none
def fMeth (m : String) (ms : List (String × Fn × List D)) (fo : Fz Sv) (fr : Fz (List Sv)) : Fz Sv := fun δ μ => (fo δ μ).bind fun o μ => match pick m ms μ o with
  | some (fn, dds) => (fr δ μ).bind fun as μ => fn (o :: (as ++ dds.map Sv.d)) μ
  | none => none
/-- what the top says of a method -/
structure MOk (P : Program) (w : World) (G : Gx) (mg : Str → Option Value) (base : Heap) (k : Nat) (m : Str) (c : String) (fn : Fn) (dds : List D) : Prop where
  cl : Cls G.K (G.cls c)
  ok : ∃ f fd ps ds dvs, Meth G.K (G.cls c) m f ∧ FnOk P w G.K mg base (L2.CX P w) k f fd ps (spF G fn) ∧ Binds G.K fd ps ds ∧ Vals dvs ds ∧ ∀ F, RpL G F dvs dds
inductive MsOk (P : Program) (w : World) (G : Gx) (mg : Str → Option Value) (base : Heap) (k : Nat) (m : Str) : List (String × Fn × List D) → Prop
  | nil : MsOk P w G mg base k m []
  | cons {c : String} {fn : Fn} {dds : List D} {r : List (String × Fn × List D)} : MOk P w G mg base k m c fn dds → MsOk P w G mg base k m r → MsOk P w G mg base k m ((c, fn, dds) :: r)
theorem MsOk.look {P : Program} {w : World} {G : Gx} {mg : Str → Option Value} {base : Heap} {k : Nat} {m : Str} {c : String} {fn : Fn} {dds : List D} : ∀ {ms : List (String × Fn × List D)}, MsOk P w G mg base k m ms → ms.lookup c = some (fn, dds) → MOk P w G mg base k m c fn dds
  | _, .nil, h => by cases h
  | _, .cons (c := c') h1 h2, h => by
    rw [List.lookup_cons] at h
    split at h
    · rename_i q
      cases h
      have q' : c = c' := by simpa using q
      subst q'
      exact h1
    · exact MsOk.look h2 h
theorem ofString_inj {a b : String} (h : Str.ofString a = Str.ofString b) : a = b := by
  rw [Str.ofString_eq_toList, Str.ofString_eq_toList] at h
  have h2 : a.toList.map Char.toNat = b.toList.map Char.toNat := by
    have := congrArg (fun z : Str => z.cps.toList) h
    simpa using this
  have inj : Function.Injective Char.toNat := fun x y e => by
    apply Char.ext
    apply UInt32.toNat_inj.mp
    exact e
  have h3 : a.toList = b.toList := (List.map_inj_right (fun x y => inj.eq_iff (a := x) (b := y) |>.mp)).mp h2
  exact String.toList_inj.mp h3
theorem lookF_no {F : Hp} {m : String} : ∀ {fs : List (Str × V)} {gs : List (String × D)}, RpF G F fs gs → (gs.lookup m).isNone = true → fs.lookup (Str.ofString m) = none
  | _, _, .nil, _ => rfl
  | _, _, .cons (x := y) h r, e => by
    rw [List.lookup_cons] at e ⊢
    split at e
    · cases e
    · rename_i q
      have ne : ¬ (Str.ofString m == Str.ofString y) = true := fun z => by
        have := ofString_inj (eq_of_beq z)
        subst this
        simp at q
      simp only [ne]
      exact lookF_no r e
theorem lookS_no {F : Hp} {ρ : List Addr} {m : String} : ∀ {fs : List (Str × V)} {gs : List (String × Sv)}, RsF G F ρ fs gs → (gs.lookup m).isNone = true → fs.lookup (Str.ofString m) = none
  | _, _, .nil, _ => rfl
  | _, _, .cons (k := y) h r, e => by
    rw [List.lookup_cons] at e ⊢
    split at e
    · cases e
    · rename_i q
      have ne : ¬ (Str.ofString m == Str.ofString y) = true := fun z => by
        have := ofString_inj (eq_of_beq z)
        subst this
        simp at q
      simp only [ne]
      exact lookS_no r e
theorem cls_at {F : Hp} {ρ : List Addr} {μ : Mu} {H : Hp} {v : V} {sv : Sv} {c : String} {m : String} (wf : Wf G F ρ μ H) (r : Rs G F ρ v sv) (h : clsOf μ sv = some c) (hm : noFld μ m sv = true) : ∃ a dx fs, v = .ref a ∧ H a = some (.ins (G.cls c) dx fs) ∧ fs.lookup (Str.ofString m) = none := by
  unfold clsOf at h
  split at h
  · cases h
    cases r with
    | d r => cases r with
      | ins h1 h2 => exact ⟨_, _, _, rfl, wf.ex _ _ h1, lookF_no h2 hm⟩
  · rename_i n
    split at h
    · rename_i c' fs hc
      cases h
      cases r with
      | c hr =>
        obtain ⟨_, dx, vs, h1, h2⟩ := wf.cell n _ _ hr hc
        refine ⟨_, dx, vs, rfl, h1, lookS_no h2 ?_⟩
        unfold noFld at hm
        simp only [hc] at hm
        exact hm
    · cases h
  · cases h
theorem pick_at {F : Hp} {ρ : List Addr} {μ : Mu} {H : Hp} {v : V} {sv : Sv} {m : String} {ms : List (String × Fn × List D)} {fn : Fn} {dds : List D} (wf : Wf G F ρ μ H) (r : Rs G F ρ v sv) (h : pick m ms μ sv = some (fn, dds)) :
    ∃ c a dx fs, ms.lookup c = some (fn, dds) ∧ v = .ref a ∧ H a = some (.ins (G.cls c) dx fs) ∧ fs.lookup (Str.ofString m) = none := by
  unfold pick at h
  split at h
  · rename_i nf
    cases hc : clsOf μ sv with
    | none => rw [hc] at h; cases h
    | some c =>
      rw [hc] at h
      obtain ⟨a, dx, fs, h1, h2, h3⟩ := cls_at wf r hc nf
      exact ⟨c, a, dx, fs, h, h1, h2, h3⟩
  · cases h
theorem z_meth {ms : List (String × Fn × List D)} {pl : Sem Bool} (mS : String) (hmS : m = Str.ofString mS) (Ms : MsOk X.prog X.w G X.mg X.base k m ms) (hK : X.K = G.K) (hr : Room k X.A) (px : Pz X W) (ho : PE X o (zE G W fo)) (ha : PA X (e :: es) (zA G W fr))
    (hst : starEach (e :: es) X.env = (false, eval e X.env) :: starEach es X.env := by rfl) (hpl : (backTo pos (starEach es X.env)).any (·.1) = false := by rfl)
    (ht : eval (.Call (.Attribute o m apos) (e :: es) [] pos) X.env = (do
      let rv ← eval o X.env
      standAt apos.atName
      let (f, first) ← holding [rv] (getMethod rv m pl)
      callWith pos f first (backTo pos (starEach (e :: es) X.env)) (backToKw pos (keywordEach [] X.env))) := by rfl) :
    PE X (.Call (.Attribute o m apos) (e :: es) [] pos) (zE G W (fMeth mS ms fo fr)) := ⟨fun pins s σ H Q I q => by
  obtain ⟨F, ρ, δ, μ, r, wf, sl, eq, po⟩ := q
  have q2 : zE G W fo σ H (fun v H1 => ∃ c a dx fs fn dds, ms.lookup c = some (fn, dds) ∧ v = .ref a ∧ H1 a = some (.ins (G.cls c) dx fs) ∧ fs.lookup m = none ∧ zA G W fr σ H1 (fun vs H2 => ∀ (dvs : List V), (∀ F, RpL G F dvs dds) → spF G fn ((v :: vs) ++ dvs) H2 Q (fun c d H => W c d σ H))) :=
    zstep wf sl eq po fun sa μ1 v F1 ρ1 H1 g1 w1 s1 rx e1 p1 => by
      split at e1
      · rename_i fn dds hp
        obtain ⟨c, a, dx, fs, h0, h1, h2, h3⟩ := pick_at w1 rx hp
        refine ⟨c, a, dx, fs, fn, dds, h0, h1, h2, by rw [hmS]; exact h3, ?_⟩
        refine zstep w1 s1 e1 p1 fun as μ2 vs F2 ρ2 H2 g2 w2 s2 ry e2 p2 dvs hdd => ?_
        exact spF_of (svs := sa :: as) w2 (.cons (rx.mono g2) ry) (hdd F2) e2 p2
      · cases e1
  refine PySem.W.methodCall_KW (pl := pl) (thn (ho.run pins s σ H _ I q2) fun u s1 ⟨v, H1, I1, rv, c, a, dx, fs, fn, dds, hl, ev, ha1, hf, q3⟩ => ?_) ht
  subst ev
  obtain rfl : u = Value.ref a := rv
  obtain ⟨cl, f, fd, ps, ds, dvs, me, ok, bi, vd, hdd⟩ := Ms.look hl
  rw [← hK] at cl me ok bi
  refine getmeth_ok I1 ha1 cl me hf ?_
  refine PySem.W.callWith_K (first := [.ref a]) (h₀ := X.base) I.ok.mod.kin me.kp (thn (ha.run pos pins s1 σ H1 _ I1 q3) ?_) hst hpl
  exact fun us s2 ⟨vs, H2, I2, r2, q4⟩ => ⟨I2.kIn, runz (us := .ref a :: us) (vs := .ref a :: vs) ok hr bi vd px I2 (.cons rfl r2) (q4 dvs hdd)⟩⟩
theorem z_meth0 {ms : List (String × Fn × List D)} {pl : Sem Bool} (mS : String) (hmS : m = Str.ofString mS) (Ms : MsOk X.prog X.w G X.mg X.base k m ms) (hK : X.K = G.K) (hr : Room k X.A) (px : Pz X W) (ho : PE X o (zE G W fo))
    (ht : eval (.Call (.Attribute o m apos) [] [] pos) X.env = (do
      let rv ← eval o X.env
      standAt apos.atName
      let (f, first) ← holding [rv] (getMethod rv m pl)
      callWith pos f first (backTo pos (starEach [] X.env)) (backToKw pos (keywordEach [] X.env))) := by rfl) :
    PE X (.Call (.Attribute o m apos) [] [] pos) (zE G W (fMeth mS ms fo fNil)) := ⟨fun pins s σ H Q I q => by
  obtain ⟨F, ρ, δ, μ, r, wf, sl, eq, po⟩ := q
  have q2 : zE G W fo σ H (fun v H1 => ∃ c a dx fs fn dds, ms.lookup c = some (fn, dds) ∧ v = .ref a ∧ H1 a = some (.ins (G.cls c) dx fs) ∧ fs.lookup m = none ∧ ∀ (dvs : List V), (∀ F, RpL G F dvs dds) → spF G fn ([v] ++ dvs) H1 Q (fun c d H => W c d σ H)) :=
    zstep wf sl eq po fun sa μ1 v F1 ρ1 H1 g1 w1 s1 rx e1 p1 => by
      split at e1
      · rename_i fn dds hp
        obtain ⟨c, a, dx, fs, h0, h1, h2, h3⟩ := pick_at w1 rx hp
        refine ⟨c, a, dx, fs, fn, dds, h0, h1, h2, by rw [hmS]; exact h3, fun dvs hdd => ?_⟩
        exact spF_of (svs := [sa]) w1 (.cons rx .nil) (hdd F1) e1 p1
      · cases e1
  refine PySem.W.methodCall_KW (pl := pl) (thn (ho.run pins s σ H _ I q2) fun u s1 ⟨v, H1, I1, rv, c, a, dx, fs, fn, dds, hl, ev, ha1, hf, q3⟩ => ?_) ht
  subst ev
  obtain rfl : u = Value.ref a := rv
  obtain ⟨cl, f, fd, ps, ds, dvs, me, ok, bi, vd, hdd⟩ := Ms.look hl
  rw [← hK] at cl me ok bi
  refine getmeth_ok I1 ha1 cl me hf ?_
  exact PySem.W.callWith_K0 (first := [.ref a]) I1.kIn me.kp (runz (us := [.ref a]) (vs := [.ref a]) ok hr bi vd px I1 (.cons rfl .nil) (q3 dvs hdd))⟩
end
end Z
namespace Z
open PySem PySem.Spec PyProof.Rows L2

/-! ### targets -/
abbrev Tz := Sv → Dl → Option Dl
/-- σ' is σ but at the slots js -/
def SameBut (js : List Nat) (σ σ' : L2.St) : Prop := σ'.length = σ.length ∧ ∀ i, i ∉ js → σ'[i]? = σ[i]?
structure ZG (G : Gx) (js : List Nat) (tg : TG) (g : Tz) : Prop where
  ok : ∀ (F : Hp) (ρ : List Addr) (μ : Mu) (H : Hp) (σ : L2.St) (δ δ' : Dl) (v : V) (x : Sv) (Q : L2.St → Hp → Prop), Wf G F ρ μ H → Sl G F ρ σ δ → Rs G F ρ v x → g x δ = some δ' → (∀ σ', SameBut js σ σ' → Sl G F ρ σ' δ' → Q σ' H) → tg v σ H Q
def gN (i : Nat) : Tz := fun x δ => some (δ.set i (some x))
theorem zg_name {G : Gx} (i : Nat) : ZG G [i] (gName i) (gN i) := ⟨fun F ρ μ H σ δ δ' v x Q w s r e k => by
  cases e
  refine k _ ⟨by simp, fun j hj => ?_⟩ (s.set r i)
  have : i ≠ j := fun z => hj (by simp [z])
  rw [List.getElem?_set_ne this]⟩
def gE : List Sv → Dl → Option Dl := fun l δ => match l with
  | [] => some δ
  | _ => none
def gC (g : Tz) (h : List Sv → Dl → Option Dl) : List Sv → Dl → Option Dl := fun l δ => match l with
  | x :: r => (g x δ).bind (h r)
  | [] => none
inductive ZGs (G : Gx) : List Nat → TGs → (List Sv → Dl → Option Dl) → Prop
  | nil : ZGs G [] gNil gE
  | cons {js ks : List Nat} {t : TG} {u : TGs} {g : Tz} {h : List Sv → Dl → Option Dl} : ZG G js t g → ZGs G ks u h → ZGs G (js ++ ks) (gCons t u) (gC g h)
theorem ZGs.ok {G : Gx} {F : Hp} {ρ : List Addr} {μ : Mu} {H : Hp} : ∀ {js : List Nat} {tg : TGs} {g : List Sv → Dl → Option Dl} {σ : L2.St} {δ δ' : Dl} {vs : List V} {xs : List Sv} {Q : L2.St → Hp → Prop}, ZGs G js tg g → Wf G F ρ μ H → Sl G F ρ σ δ → RsL G F ρ vs xs → g xs δ = some δ' →
    (∀ σ', SameBut js σ σ' → Sl G F ρ σ' δ' → Q σ' H) → tg vs σ H Q
  | _, _, _, σ, δ, _, _, _, Q, .nil, w, s, r, e, k => by
    cases r with
    | nil => cases e; exact ⟨rfl, k σ ⟨rfl, fun _ _ => rfl⟩ s⟩
    | cons _ _ => cases e
  | _, _, _, σ, δ, _, _, _, Q, .cons (js := js) (ks := ks) (g := g) h1 h2, w, s, r, e, k => by
    cases r with
    | nil => cases e
    | cons r1 r2 =>
      rename_i v x vs xs
      cases hg : g x δ with
      | none => simp [gC, hg] at e
      | some δ1 =>
        simp only [gC, hg, Option.bind_some] at e
        refine ⟨v, vs, rfl, h1.ok F ρ μ H σ δ δ1 v x _ w s r1 hg fun σ1 b1 s1 => ?_⟩
        refine ZGs.ok h2 w s1 r2 e fun σ2 b2 s2 => k σ2 ⟨b2.1.trans b1.1, fun i hi => ?_⟩ s2
        simp only [List.mem_append, not_or] at hi
        rw [b2.2 i hi.2, b1.2 i hi.1]
/-- (a, b, ..): a tuple of that length -/
def gT (h : List Sv → Dl → Option Dl) : Tz := fun x δ => match x with
  | .d (.tup l) => h (l.map Sv.d) δ
  | _ => none
theorem zg_tup {G : Gx} {js : List Nat} {n : Nat} {t : TGs} {h : List Sv → Dl → Option Dl} (z : ZGs G js t h) (hn : ∀ (l : List Sv) δ δ', h l δ = some δ' → l.length = n) : ZG G js (gTup G.K n t) (gT h) := ⟨fun F ρ μ H σ δ δ' v x Q w s r e k => by
  unfold gT at e
  split at e
  · rename_i l
    cases r with
    | d r =>
      cases r with
      | tup h1 h2 =>
        refine ⟨_, _, rfl, w.ex.t h1, ?_, z.ok w s (RsL.ofD h2) e k⟩
        have := hn _ _ _ e
        rw [h2.len]; simpa using this
  · cases e⟩
theorem len_nil : ∀ (l : List Sv) (δ δ' : Dl), gE l δ = some δ' → l.length = 0
  | [], _, _, _ => rfl
  | _ :: _, _, _, e => by cases e
theorem len_cons {g : Tz} {h : List Sv → Dl → Option Dl} {n : Nat} (hn : ∀ (l : List Sv) δ δ', h l δ = some δ' → l.length = n) : ∀ (l : List Sv) (δ δ' : Dl), gC g h l δ = some δ' → l.length = n + 1
  | [], _, _, e => by cases e
  | x :: r, δ, δ', e => by
    cases hg : g x δ with
    | none => simp [gC, hg] at e
    | some δ1 =>
      simp only [gC, hg, Option.bind_some] at e
      simp [hn _ _ _ e]

/-! ### what is walked -/
def WalkOk (G : Gx) (F : Hp) (ρ : List Addr) (J : It) (items : List Sv) : Prop := ∀ F' ρ' μ' H', Gr F F' ρ ρ' → Wf G F' ρ' μ' H' → ∀ i : Nat,
  (items.length ≤ i → J.stop i H') ∧ ∀ y, items[i]? = some y → J.go i H' ∧ ∀ x H'', J.yld i H' x H'' → ∃ F'' ρ'', Gr F' F'' ρ' ρ'' ∧ Wf G F'' ρ'' μ' H'' ∧ Rs G F'' ρ'' x y
abbrev zI (G : Gx) (W : WX) (f : Fz (List Sv)) : TI := zG G W (WalkOk G) f
theorem piImp {X : Cx} {tg e : Expr} {t t' : TI} (h : PI X tg e t) (i : ∀ σ H Q, t' σ H Q → t σ H Q) : PI X tg e t' := ⟨fun pins s σ H Q I q => h.run pins s σ H Q I (i _ _ _ q)⟩
theorem piOr {X : Cx} {tg e : Expr} {t t' : TI} (h : PI X tg e t) (h' : PI X tg e t') : PI X tg e (fun σ H Q => t σ H Q ∨ t' σ H Q) := ⟨fun pins s σ H Q I q => q.elim (h.run pins s σ H Q I) (h'.run pins s σ H Q I)⟩

def forL (g : Tz) (S : Sz) : List Sv → Sz
  | [], δ, μ => some (.nx, δ, μ)
  | x :: xs, δ, μ => match g x δ with
    | none => none
    | some δ1 => match S δ1 μ with
      | some (.nx, δ2, μ2) => forL g S xs δ2 μ2
      | some (.ct, δ2, μ2) => forL g S xs δ2 μ2
      | some (.bk, δ2, μ2) => some (.nx, δ2, μ2)
      | r => r
def sFor (fi : Fz (List Sv)) (g : Tz) (S : Sz) : Sz := fun δ μ => eS (fi δ μ) δ fun items μ => forL g S items δ μ
section
variable {G : Gx} {X : Cx} {W : WX} {tg iter c : Expr} {body : List Stmt} {fi : Fz (List Sv)} {t : TG} {g : Tz} {S : Sz} {js : List Nat} {pos : Pos} {tc : Fz Bool}
theorem zs_for (hp : PassesOwn (model X.prog X.w) X.A X.env X.xe) (hc : X.calm = true) (hi : PI X tg iter (zI G W fi)) (hg : PG X tg t) (zg : ZG G js t g) (hb : PSs X body (zS G W S)) (hs : ∀ x, foldedSetIterable iter X.env x = pure x := by intro _; rfl) :
    PS X (.For tg iter body [] pos) (zS G W (sFor fi g S)) := psImp (ps_for hp hc hi hg hb hs) fun D σ H q => by
  obtain ⟨F, ρ, δ, μ, r, w, s, e, p⟩ := q
  refine zstepS w s e p fun items μ1 J F1 ρ1 H1 g1 w1 s1 wk e1 p1 => ?_
  refine ⟨fun i m σ' H' => m = items.length - i ∧ i ≤ items.length ∧ ∃ F' ρ' δ' μ', Gr F1 F' ρ1 ρ' ∧ Wf G F' ρ' μ' H' ∧ Sl G F' ρ' σ' δ' ∧ forL g S (items.drop i) δ' μ' = some r,
    ⟨items.length, rfl, Nat.zero_le _, F1, ρ1, δ, μ1, Gr.refl _ _, w1, s1, e1⟩, ?_⟩
  rintro i m σ' H' ⟨rfl, hi, F', ρ', δ', μ', g', w', s', e'⟩
  by_cases hlt : i < items.length
  · have hd : items.drop i = items[i] :: items.drop (i + 1) := List.drop_eq_getElem_cons hlt
    obtain ⟨go, yl⟩ := (wk F' ρ' μ' H' g' w' i).2 items[i] (List.getElem?_eq_getElem hlt)
    refine .inr ⟨go, fun σ2 H2 => ∃ F2 ρ2 δ2 μ2, Gr F1 F2 ρ1 ρ2 ∧ Wf G F2 ρ2 μ2 H2 ∧ Sl G F2 ρ2 σ2 δ2 ∧ forL g S (items.drop (i + 1)) δ2 μ2 = some r, fun σ2 H2 ⟨F2, ρ2, δ2, μ2, g2, w2, s2, e2⟩ => ⟨items.length - (i + 1), by omega, rfl, hlt, F2, ρ2, δ2, μ2, g2, w2, s2, e2⟩, fun x H2 hy => ?_⟩
    obtain ⟨F2, ρ2, g2, w2, rx⟩ := yl x H2 hy
    rw [hd] at e'
    unfold forL at e'
    cases hg : g items[i] δ' with
    | none => simp [hg] at e'
    | some δ1 =>
      simp only [hg] at e'
      refine zg.ok F2 ρ2 μ' H2 σ' δ' δ1 x _ _ w2 (s'.mono g2) rx hg fun σ3 _ s3 => ?_
      cases hS : S δ1 μ' with
      | none => simp [hS] at e'
      | some q =>
        obtain ⟨fl, δ4, μ4⟩ := q
        have gg : Gr F1 F2 ρ1 ρ2 := g'.trans g2
        refine ⟨F2, ρ2, δ1, μ', _, w2, s3, hS, ?_⟩
        cases fl with
        | nx => simp only [hS] at e'; exact fun σ5 F5 ρ5 H5 g5 w5 s5 => ⟨F5, ρ5, δ4, μ4, gg.trans g5, w5, s5, e'⟩
        | ct => simp only [hS] at e'; exact fun σ5 F5 ρ5 H5 g5 w5 s5 => ⟨F5, ρ5, δ4, μ4, gg.trans g5, w5, s5, e'⟩
        | bk => simp only [hS] at e'; cases e'; exact fun σ5 F5 ρ5 H5 g5 w5 s5 => p1 σ5 F5 ρ5 H5 (gg.trans g5) w5 s5
        | rt v => simp only [hS] at e'; cases e'; exact fun a F5 ρ5 H5 g5 w5 s5 => p1 a F5 ρ5 H5 (gg.trans g5) w5 s5
        | ex v => simp only [hS] at e'; cases e'; exact fun c d σ5 F5 ρ5 H5 g5 w5 s5 => p1 c d σ5 F5 ρ5 H5 (gg.trans g5) w5 s5
  · have hi' : items.length ≤ i := by omega
    refine .inl ⟨(wk F' ρ' μ' H' g' w' i).1 hi', ?_⟩
    rw [List.drop_eq_nil_of_le hi'] at e'
    cases e'
    exact p1 σ' F' ρ' H' g' w' s'

/-! ### while -/
def whileN (c : Fz Bool) (S : Sz) : Nat → Sz
  | 0, _, _ => none
  | n + 1, δ, μ => eS (c δ μ) δ fun b μ => if b = true then (match S δ μ with
    | some (.nx, δ2, μ2) => whileN c S n δ2 μ2
    | some (.ct, δ2, μ2) => whileN c S n δ2 μ2
    | some (.bk, δ2, μ2) => some (.nx, δ2, μ2)
    | r => r) else some (.nx, δ, μ)
open Classical in
noncomputable def sWhile (c : Fz Bool) (S : Sz) : Sz := fun δ μ => if h : ∃ n r, whileN c S n δ μ = some r then some h.choose_spec.choose else none
theorem whileN_succ {c : Fz Bool} {S : Sz} : ∀ {n : Nat} {δ : Dl} {μ : Mu} {r : Fl × Dl × Mu}, whileN c S n δ μ = some r → whileN c S (n + 1) δ μ = some r
  | 0, _, _, _, h => by cases h
  | n + 1, δ, μ, r, h => by
    unfold whileN at h ⊢
    cases hc : c δ μ with
    | none => rw [hc] at h; cases h
    | some q =>
      obtain ⟨b, μ1⟩ := q
      rw [hc] at h
      cases b with
      | error x => exact h
      | ok b =>
        simp only [eS_ok] at h ⊢
        split
        · rename_i hb
          rw [if_pos hb] at h
          cases hS : S δ μ1 with
          | none => rw [hS] at h; cases h
          | some q =>
            obtain ⟨fl, δ2, μ2⟩ := q
            rw [hS] at h
            cases fl with
            | nx => exact whileN_succ h
            | ct => exact whileN_succ h
            | bk => exact h
            | rt v => exact h
            | ex v => exact h
        · rename_i hb
          rw [if_neg hb] at h
          exact h
theorem whileN_le {c : Fz Bool} {S : Sz} {n m : Nat} {δ : Dl} {μ : Mu} {r : Fl × Dl × Mu} (h : whileN c S n δ μ = some r) (hm : n ≤ m) : whileN c S m δ μ = some r := by
  induction hm with
  | refl => exact h
  | step _ ih => exact whileN_succ ih
theorem sWhile_of {c : Fz Bool} {S : Sz} {n : Nat} {δ : Dl} {μ : Mu} {r : Fl × Dl × Mu} (h : whileN c S n δ μ = some r) : sWhile c S δ μ = some r := by
  have hx : ∃ n r, whileN c S n δ μ = some r := ⟨n, r, h⟩
  unfold sWhile
  rw [dif_pos hx]
  have h2 := hx.choose_spec.choose_spec
  have a := whileN_le h (Nat.le_max_left n hx.choose)
  have b := whileN_le h2 (Nat.le_max_right n hx.choose)
  rw [a] at b
  rw [← b]
theorem of_sWhile {c : Fz Bool} {S : Sz} {δ : Dl} {μ : Mu} {r : Fl × Dl × Mu} (h : sWhile c S δ μ = some r) : ∃ n, whileN c S n δ μ = some r := by
  unfold sWhile at h
  split at h
  · rename_i hx
    exact ⟨_, by rw [← h]; exact hx.choose_spec.choose_spec⟩
  · cases h
theorem zs_while (hp : PassesOwn (model X.prog X.w) X.A X.env X.xe) (hc : PT X c (zT G W tc)) (hb : PSs X body (zS G W S)) : PS X (.While c body [] pos) (zS G W (sWhile tc S)) := psImp (ps_while hp hc hb) fun D σ H q => by
  obtain ⟨F, ρ, δ, μ, r, w, s, e, p⟩ := q
  obtain ⟨n, e⟩ := of_sWhile e
  refine ⟨fun m σ' H' => ∃ F' ρ' δ' μ', Gr F F' ρ ρ' ∧ Wf G F' ρ' μ' H' ∧ Sl G F' ρ' σ' δ' ∧ whileN tc S m δ' μ' = some r, ⟨n, F, ρ, δ, μ, Gr.refl _ _, w, s, e⟩, ?_⟩
  rintro m σ' H' ⟨F', ρ', δ', μ', g', w', s', e'⟩
  cases m with
  | zero => cases e'
  | succ m =>
    unfold whileN at e'
    refine zstepS w' s' e' (p.mono g') fun b μ1 a F1 ρ1 H1 g1 w1 s1 ab e1 p1 => ?_
    subst ab
    cases a with
    | false =>
      simp only [Bool.false_eq_true, if_false] at e1 ⊢
      cases e1
      exact p1 σ' F1 ρ1 H1 (Gr.refl _ _) w1 s1
    | true =>
      simp only [if_true] at e1 ⊢
      refine ⟨fun σ2 H2 => ∃ F2 ρ2 δ2 μ2, Gr F F2 ρ ρ2 ∧ Wf G F2 ρ2 μ2 H2 ∧ Sl G F2 ρ2 σ2 δ2 ∧ whileN tc S m δ2 μ2 = some r, fun σ2 H2 q => ⟨m, Nat.lt_succ_self m, q⟩, ?_⟩
      cases hS : S δ' μ1 with
      | none => simp [hS] at e1
      | some q =>
        obtain ⟨fl, δ4, μ4⟩ := q
        have gg : Gr F F1 ρ ρ1 := g'.trans g1
        refine ⟨F1, ρ1, δ', μ1, _, w1, s1, hS, ?_⟩
        cases fl with
        | nx => simp only [hS] at e1; exact fun σ5 F5 ρ5 H5 g5 w5 s5 => ⟨F5, ρ5, δ4, μ4, gg.trans g5, w5, s5, e1⟩
        | ct => simp only [hS] at e1; exact fun σ5 F5 ρ5 H5 g5 w5 s5 => ⟨F5, ρ5, δ4, μ4, gg.trans g5, w5, s5, e1⟩
        | bk => simp only [hS] at e1; cases e1; exact fun σ5 F5 ρ5 H5 g5 w5 s5 => p σ5 F5 ρ5 H5 (gg.trans g5) w5 s5
        | rt v => simp only [hS] at e1; cases e1; exact fun a F5 ρ5 H5 g5 w5 s5 => p a F5 ρ5 H5 (gg.trans g5) w5 s5
        | ex v => simp only [hS] at e1; cases e1; exact fun c d σ5 F5 ρ5 H5 g5 w5 s5 => p c d σ5 F5 ρ5 H5 (gg.trans g5) w5 s5
end
end Z
namespace Z
open PySem PySem.Spec PyProof.Rows L2

/-! ### a cell that is held no more becomes a tree -/
def toDs : List Sv → Option (List D)
  | [] => some []
  | .d x :: r => (toDs r).map fun l => x :: l
  | .c _ :: _ => none
def toFs : List (String × Sv) → Option (List (String × D))
  | [] => some []
  | (k, .d x) :: r => (toFs r).map fun l => (k, x) :: l
  | (_, .c _) :: _ => none
theorem toDs_map : ∀ l : List D, toDs (l.map Sv.d) = some l
  | [] => rfl
  | x :: r => by simp [toDs, toDs_map r]
theorem of_toDs : ∀ {xs : List Sv} {ds : List D}, toDs xs = some ds → xs = ds.map Sv.d
  | [], ds, h => by cases h; rfl
  | .d x :: r, ds, h => by
    unfold toDs at h
    cases hr : toDs r with
    | none => rw [hr] at h; cases h
    | some l => rw [hr] at h; cases h; rw [of_toDs hr]; rfl
  | .c _ :: _, _, h => by cases h
theorem RsF.toF {G : Gx} {F : Hp} {ρ : List Addr} : ∀ {vs : List (Str × V)} {xs : List (String × Sv)} {fs : List (String × D)}, RsF G F ρ vs xs → toFs xs = some fs → RpF G F vs fs
  | _, _, _, .nil, h => by cases h; exact .nil
  | _, (k, .d x) :: r, fs, .cons (.d h1) h2, h => by
    unfold toFs at h
    cases hr : toFs r with
    | none => rw [hr] at h; cases h
    | some l => rw [hr] at h; cases h; exact .cons h1 (RsF.toF h2 hr)
  | _, (k, .c _) :: r, _, .cons _ _, h => by cases h
noncomputable def frzV (μ0 : Mu) (v : Sv) (μ : Mu) : Rz Sv := match v with
  | .d x => some (.ok (.d x), μ)
  | .c n => match μ[n]? with
    | some (.lst xs) => match toDs xs with
      | some ds => some (.ok (.d (.lst ds)), gcM μ0 (μ.set n .fz))
      | none => none
    | some (.ins c fs) => match toFs fs with
      | some gs => some (.ok (.d (.ins c gs)), gcM μ0 (μ.set n .fz))
      | none => none
    | _ => none
noncomputable def fFrz (f : Fz Sv) : Fz Sv := fun δ μ => (f δ μ).bind fun v μ1 => frzV μ v μ1
section
variable {G : Gx} {X : Cx} {W : WX} {e : Expr} {fa : Fz Sv}
theorem frz_reads {σ : L2.St} {H : Hp} {Q : VK} (q : zE G W (fFrz fa) σ H Q) : zE G W fa σ H Q := by
  obtain ⟨F, ρ, δ, μ, r, w, s, e, p⟩ := q
  refine zstep w s e p fun sa μ1 x F1 ρ1 H1 g1 w1 s1 rx e1 p1 => ?_
  unfold frzV at e1
  split at e1
  · cases e1
    exact p1.ok w1 rx
  · rename_i n
    cases rx with
    | c hr =>
      rename_i a
      split at e1
      · rename_i xs hc
        split at e1
        · rename_i ds hd
          cases e1
          obtain ⟨h0, vs, h1, h2⟩ := w1.cell n a _ hr hc
          obtain ⟨w2, g2⟩ := w1.frz hr h0 h1
          obtain ⟨ρ2, _, g3, w3⟩ := w.gc (g1.trans g2) w2
          have e3 := of_toDs hd
          subst e3
          exact p (.ref a) _ ρ2 H1 g3 w3 (.d (.lst (SqL.of upd_same) ((RsL.toD h2).mono g2.f)))
        · cases e1
      · rename_i c fs hc
        split at e1
        · rename_i gs hd
          cases e1
          obtain ⟨h0, dx, vs, h1, h2⟩ := w1.cell n a _ hr hc
          obtain ⟨w2, g2⟩ := w1.frz hr h0 h1
          obtain ⟨ρ2, _, g3, w3⟩ := w.gc (g1.trans g2) w2
          exact p (.ref a) _ ρ2 H1 g3 w3 (.d (.ins upd_same ((h2.toF hd).mono g2.f)))
        · cases e1
      · cases e1
theorem z_frz (h : PE X e (zE G W fa)) : PE X e (zE G W (fFrz fa)) := peImp h fun _ _ _ q => frz_reads q
end

/-! ### list comprehensions -/
def wipeZ (δ : Dl) : List Nat → Dl
  | [] => δ
  | v :: vs => (wipeZ δ vs).set v none
theorem Sl.wipe {G : Gx} {F : Hp} {ρ : List Addr} {σ : L2.St} {δ : Dl} (s : Sl G F ρ σ δ) : ∀ vs : List Nat, Sl G F ρ (L2.wipe σ vs) (wipeZ δ vs)
  | [] => s
  | v :: vs => Sl.un_at v none (Sl.wipe s vs)
theorem wipe_at (σ : L2.St) : ∀ (vs : List Nat) (i : Nat), (L2.wipe σ vs)[i]? = if i ∈ vs ∧ i < σ.length then some none else σ[i]?
  | [], i => by simp [L2.wipe]
  | v :: vs, i => by
    unfold L2.wipe
    by_cases hv : v = i
    · subst hv
      by_cases hl : v < σ.length
      · rw [List.getElem?_set_self (by rw [L2.wipe_length]; exact hl)]; simp [hl]
      · rw [List.getElem?_eq_none (by simp [L2.wipe_length]; omega)]; simp [hl, List.getElem?_eq_none (show σ.length ≤ v by omega)]
    · rw [List.getElem?_set_ne hv, wipe_at σ vs i]
      have : ¬ i = v := fun z => hv z.symm
      simp [this]
theorem wipe_same {σ σ2 : L2.St} {js vs : List Nat} (hs : ∀ j ∈ js, j ∈ vs) (b : SameBut js (L2.wipe σ vs) σ2) : L2.wipe σ2 vs = L2.wipe σ vs := by
  have hl : σ2.length = σ.length := by rw [b.1, L2.wipe_length]
  apply List.ext_getElem?
  intro i
  rw [wipe_at, wipe_at, hl]
  by_cases hi : i ∈ vs
  · by_cases hl2 : i < σ.length
    · simp [hi, hl2]
    · simp only [hi, hl2, and_false, if_false]
      rw [List.getElem?_eq_none (by omega), List.getElem?_eq_none (by omega)]
  · simp only [hi, false_and, if_false]
    rw [b.2 i (fun h => hi (hs i h)), wipe_at]
    simp [hi]
def fYes : Fz Bool := fun _ μ => some (.ok true, μ)
def lcL (g : Tz) (c : Fz Bool) (e : Fz Sv) (n : Nat) (δ : Dl) : List Sv → Mu → Option Mu
  | [], μ => some μ
  | x :: xs, μ => match g x δ with
    | none => none
    | some δ1 => match c δ1 μ with
      | some (.ok true, μ1) => match e δ1 μ1 with
        | some (.ok y, μ2) => match μ2[n]? with
          | some (.lst acc) => if acc.length < 16777216 then lcL g c e n δ xs (μ2.set n (.lst (acc ++ [y]))) else none
          | _ => none
        | _ => none
      | some (.ok false, μ1) => lcL g c e n δ xs μ1
      | _ => none
def fLcC (fi : Fz (List Sv)) (vs : List Nat) (g : Tz) (c : Fz Bool) (e : Fz Sv) : Fz Sv := fun δ μ => (fi δ μ).bind fun items μ => match lcL g c e μ.length (wipeZ δ vs) items (μ ++ [.lst []]) with
  | some μ' => some (.ok (.c μ.length), μ')
  | none => none
abbrev W0 : WX := fun _ _ _ _ => False
section
variable {G : Gx} {X : Cx} {W : WX} {elt tg iter : Expr} {ifs : List Expr} {fi : Fz (List Sv)} {t : TG} {g : Tz} {js : List Nat} {pos : Pos} {fc : Fz Bool} {fe : Fz Sv} {scope : Scope} {own : List (Str × Nat)}
theorem zts_nil : PTs X [] (zT G W fYes) := ⟨fun pins s σ H Q I q => pts_nil.run pins s σ H Q I (by
  obtain ⟨F, ρ, δ, μ, r, w, s, e, p⟩ := q
  cases e
  exact p.ok w rfl)⟩
theorem zts_one {c : Expr} (h : PT X c (zT G W fc)) : PTs X [c] (zT G W fc) := pts_one h
theorem lc_reads (zg : ZG G js t g) (hj : ∀ j ∈ js, j ∈ own.map (·.2)) {σ : L2.St} {H : Hp} {Q : VK} (q : zE G W (fLcC fi (own.map (·.2)) g fc fe) σ H Q) : tLc (zI G W fi) t (zT G W0 fc) (zE G W0 fe) (own.map (·.2)) σ H Q := by
  obtain ⟨F, ρ, δ, μ, r, w, s, e, p⟩ := q
  refine zstep w s e p fun items μ1 J F1 ρ1 H1 g1 w1 s1 wk e1 p1 => ?_
  intro Dn hD
  split at e1
  case h_2 => cases e1
  rename_i μe he
  cases e1
  obtain ⟨w2, g2⟩ := w1.newC (p := Dn) hD (o := .lst []) (c := .lst []) ⟨w1.ex.none hD, [], upd_same, .nil⟩
  refine ⟨fun i m H' => m = items.length - i ∧ i ≤ items.length ∧ ∃ F' ρ' μ', Gr F1 F' (ρ1 ++ [Dn]) ρ' ∧ Wf G F' ρ' μ' H' ∧ lcL g fc fe μ1.length (wipeZ δ (own.map (·.2))) (items.drop i) μ' = some μe,
    ⟨items.length, rfl, Nat.zero_le _, F1, ρ1 ++ [Dn], _, Gr.refl _ _, w2, he⟩, ?_⟩
  rintro i m H' ⟨rfl, hi, F', ρ', μ', g', w', e'⟩
  have nD : ρ'[μ1.length]? = some Dn := g'.at (by rw [← w1.len]; simp)
  by_cases hlt : i < items.length
  · have hd : items.drop i = items[i] :: items.drop (i + 1) := List.drop_eq_getElem_cons hlt
    obtain ⟨go, yl⟩ := (wk F' ρ' μ' H' (g2.trans g') w' i).2 items[i] (List.getElem?_eq_getElem hlt)
    refine .inr ⟨go, fun H2 => ∃ F2 ρ2 μ2, Gr F1 F2 (ρ1 ++ [Dn]) ρ2 ∧ Wf G F2 ρ2 μ2 H2 ∧ lcL g fc fe μ1.length (wipeZ δ (own.map (·.2))) (items.drop (i + 1)) μ2 = some μe, fun H2 ⟨F2, ρ2, μ2, g2, w2, e2⟩ => ⟨items.length - (i + 1), by omega, rfl, hlt, F2, ρ2, μ2, g2, w2, e2⟩, fun x H2 hy => ?_⟩
    obtain ⟨F2, ρ2, gy, wy, rx⟩ := yl x H2 hy
    rw [hd] at e'
    unfold lcL at e'
    cases hg : g items[i] (wipeZ δ (own.map (·.2))) with
    | none => simp [hg] at e'
    | some δ1 =>
      simp only [hg] at e'
      refine zg.ok F2 ρ2 μ' H2 _ _ δ1 x _ _ wy (((s1.mono g2).mono (g'.trans gy)).wipe _) rx hg fun σ3 b3 s3 => ⟨wipe_same hj b3, ?_⟩
      cases hc : fc δ1 μ' with
      | none => simp [hc] at e'
      | some q =>
        obtain ⟨b, μ3⟩ := q
        refine ⟨F2, ρ2, δ1, μ', _, wy, s3, hc, ?_⟩
        cases b with
        | error x => simp [hc] at e'
        | ok b =>
          intro bb F3 ρ3 H3 g3 w3 ebb
          subst ebb
          cases bb with
          | false =>
            simp only [hc] at e'
            exact ⟨F3, ρ3, μ3, (g'.trans gy).trans g3, w3, e'⟩
          | true =>
            simp only [hc] at e'
            simp only [if_true]
            cases hf : fe δ1 μ3 with
            | none => simp [hf] at e'
            | some q =>
              obtain ⟨y, μ4⟩ := q
              refine ⟨F3, ρ3, δ1, μ3, _, w3, s3.mono g3, hf, ?_⟩
              cases y with
              | error x => simp [hf] at e'
              | ok y =>
                intro vy F4 ρ4 H4 g4 w4 ry
                simp only [hf] at e'
                have gall : Gr F1 F4 (ρ1 ++ [Dn]) ρ4 := ((g'.trans gy).trans g3).trans g4
                have nD4 : ρ4[μ1.length]? = some Dn := gall.at (by rw [← w1.len]; simp)
                split at e'
                · rename_i acc hacc
                  split at e'
                  · rename_i hlen
                    obtain ⟨h0, vs, h1, h2⟩ := w4.cell _ _ _ nD4 hacc
                    refine ⟨vs, h1, by rw [h2.len]; exact hlen, F4, ρ4, _, gall, w4.setC nD4 h0 (show CellOk G F4 ρ4 _ Dn (.lst (acc ++ [y])) from ⟨h0, vs ++ [vy], upd_same, h2.app (.cons ry .nil)⟩), e'⟩
                  · cases e'
                · cases e'
  · have hi' : items.length ≤ i := by omega
    refine .inl ⟨(wk F' ρ' μ' H' (g2.trans g') w' i).1 hi', ?_⟩
    rw [List.drop_eq_nil_of_le hi'] at e'
    cases e'
    exact p1 _ F' ρ' H' (g2.trans g') w' (.c nD)
theorem z_lc (hc : X.calm = true) (hN : X.N.Nodup) (hi : PI X tg iter (zI G W fi)) (ok : BlkOk X.N X.env.scope scope own) (zg : ZG G js t g) (hj : ∀ j ∈ js, j ∈ own.map (·.2))
    (hg : ∀ (s : Shared) (H : Hp) (C : Addr) (cl : List (Str × Addr)) (fp : List Addr), PG (X.blk s H scope (compEnvC scope cl C X.env) fp) tg t)
    (ht : ∀ (s : Shared) (H : Hp) (C : Addr) (cl : List (Str × Addr)) (fp : List Addr), PTs (X.blk s H scope (compEnvC scope cl C X.env) fp) ifs (zT G W0 fc))
    (he : ∀ (s : Shared) (H : Hp) (C : Addr) (cl : List (Str × Addr)) (fp : List Addr), PE (X.blk s H scope (compEnvC scope cl C X.env) fp) elt (zE G W0 fe)) (hs : ∀ x, foldedSetIterable iter X.env x = pure x := by intro _; rfl) :
    PE X (.ListComp elt [⟨tg, iter, ifs, 0⟩] scope pos) (zE G W (fLcC fi (own.map (·.2)) g fc fe)) := peImp (pe_lc hc hN hi ok hg ht he hs) fun _ _ _ q => lc_reads zg hj q
/-- y = [..] on one line: the store is the comprehension's own -/
theorem zs_setLc {f' : Fz Sv} (conv : ∀ σ H Q, zE G W f' σ H Q → zE G W (fLcC fi (own.map (·.2)) g fc fe) σ H Q) {i : Nat} {y : Str} {py : Pos} {spos : Pos} (hc : X.calm = true) (hN : X.N.Nodup) (hy : X.N[i]? = some y) (hyl : X.env.scope.names.lookup y = some .local)
    (hsw : swapsWith (.ListComp elt [⟨tg, iter, ifs, 0⟩] scope pos) (some (.Name y py)) spos.line X.env = pure true) (hi : PI X tg iter (zI G W fi)) (ok : BlkOk X.N X.env.scope scope own) (zg : ZG G js t g) (hj : ∀ j ∈ js, j ∈ own.map (·.2))
    (hg : ∀ (s : Shared) (H : Hp) (C : Addr) (cl : List (Str × Addr)) (fp : List Addr), PG (X.blk s H scope (compEnvC scope cl C X.env) fp) tg t)
    (ht : ∀ (s : Shared) (H : Hp) (C : Addr) (cl : List (Str × Addr)) (fp : List Addr), PTs (X.blk s H scope (compEnvC scope cl C X.env) fp) ifs (zT G W0 fc))
    (he : ∀ (s : Shared) (H : Hp) (C : Addr) (cl : List (Str × Addr)) (fp : List Addr), PE (X.blk s H scope (compEnvC scope cl C X.env) fp) elt (zE G W0 fe)) (hs : ∀ x, foldedSetIterable iter X.env x = pure x := by intro _; rfl) :
    PS X (.Assign [.Name y py] (.ListComp elt [⟨tg, iter, ifs, 0⟩] scope pos) spos) (zS G W (sSet i f')) := psImp (ps_setLc hc hN hy hyl hsw hi ok hg ht he hs) fun D σ H q => by
  obtain ⟨F, ρ, δ, μ, r, w, s, e, p⟩ := q
  have q2 : zE G W f' σ H (fun x H1 => gName i x σ H1 D.nx) := zstepS w s e p fun sa μ1 x F1 ρ1 H1 g1 w1 s1 rx e1 p1 => by
    cases e1
    exact p1.nx rfl w1 (s1.set rx i)
  exact lc_reads zg hj (conv _ _ _ q2)
theorem z_lcV {vs : List Nat} (hc : X.calm = true) (hN : X.N.Nodup) (hi : PI X tg iter (zI G W fi)) (ok : BlkOk X.N X.env.scope scope own) (hv : own.map (·.2) = vs) (zg : ZG G js t g) (hj : ∀ j ∈ js, j ∈ vs)
    (hg : ∀ (s : Shared) (H : Hp) (C : Addr) (cl : List (Str × Addr)) (fp : List Addr), PG (X.blk s H scope (compEnvC scope cl C X.env) fp) tg t)
    (ht : ∀ (s : Shared) (H : Hp) (C : Addr) (cl : List (Str × Addr)) (fp : List Addr), PTs (X.blk s H scope (compEnvC scope cl C X.env) fp) ifs (zT G W0 fc))
    (he : ∀ (s : Shared) (H : Hp) (C : Addr) (cl : List (Str × Addr)) (fp : List Addr), PE (X.blk s H scope (compEnvC scope cl C X.env) fp) elt (zE G W0 fe)) (hs : ∀ x, foldedSetIterable iter X.env x = pure x := by intro _; rfl) :
    PE X (.ListComp elt [⟨tg, iter, ifs, 0⟩] scope pos) (zE G W (fLcC fi vs g fc fe)) := by
  subst hv; exact z_lc hc hN hi ok zg hj hg ht he hs
theorem zs_setLcV {vs : List Nat} {f' : Fz Sv} (conv : ∀ σ H Q, zE G W f' σ H Q → zE G W (fLcC fi vs g fc fe) σ H Q) {i : Nat} {y : Str} {py : Pos} {spos : Pos} (hc : X.calm = true) (hN : X.N.Nodup) (hy : X.N[i]? = some y) (hyl : X.env.scope.names.lookup y = some .local)
    (hsw : swapsWith (.ListComp elt [⟨tg, iter, ifs, 0⟩] scope pos) (some (.Name y py)) spos.line X.env = pure true) (hi : PI X tg iter (zI G W fi)) (ok : BlkOk X.N X.env.scope scope own) (hv : own.map (·.2) = vs) (zg : ZG G js t g) (hj : ∀ j ∈ js, j ∈ vs)
    (hg : ∀ (s : Shared) (H : Hp) (C : Addr) (cl : List (Str × Addr)) (fp : List Addr), PG (X.blk s H scope (compEnvC scope cl C X.env) fp) tg t)
    (ht : ∀ (s : Shared) (H : Hp) (C : Addr) (cl : List (Str × Addr)) (fp : List Addr), PTs (X.blk s H scope (compEnvC scope cl C X.env) fp) ifs (zT G W0 fc))
    (he : ∀ (s : Shared) (H : Hp) (C : Addr) (cl : List (Str × Addr)) (fp : List Addr), PE (X.blk s H scope (compEnvC scope cl C X.env) fp) elt (zE G W0 fe)) (hs : ∀ x, foldedSetIterable iter X.env x = pure x := by intro _; rfl) :
    PS X (.Assign [.Name y py] (.ListComp elt [⟨tg, iter, ifs, 0⟩] scope pos) spos) (zS G W (sSet i f')) := by
  subst hv; exact zs_setLc conv hc hN hy hyl hsw hi ok zg hj hg ht he hs

end
end Z
namespace Z
open PySem PySem.Spec PyProof.Rows L2

theorem orR {X : Cx} {f : Value → Value → Sem Value} {r r' : R2} (h : OpR X f r) (h' : OpR X f r') : OpR X f (fun x y H Q => r x y H Q ∨ r' x y H Q) := fun pins s σ H x y v u Q I rx ry q =>
  q.elim (h pins s σ H x y v u Q I rx ry) (h' pins s σ H x y v u Q I rx ry)
theorem orC {X : Cx} {f : Value} {r r' : List V → Hp → VK → Prop} (h : CallR X f r) (h' : CallR X f r') : CallR X f (fun x H Q => r x H Q ∨ r' x H Q) := fun pins s σ H xs us Q I rx q =>
  q.elim (h pins s σ H xs us Q I rx) (h' pins s σ H xs us Q I rx)
theorem peOr {X : Cx} {e : Expr} {t t' : TE} (h : PE X e t) (h' : PE X e t') : PE X e (fun σ H Q => t σ H Q ∨ t' σ H Q) := ⟨fun pins s σ H Q I q => q.elim (h.run pins s σ H Q I) (h'.run pins s σ H Q I)⟩
theorem rpS {G : Gx} {F : Hp} {x : Str} {s : List Nat} (h : x.cps.toList = s) : Rp G F (.str x) (.str s) := by subst h; exact .str x
theorem lenS (x : Str) : x.length = x.cps.toList.length := by simp [Str.length]

/-! ### a value as it is read -/
def dV (μ : Mu) : Sv → Option D
  | .d x => some x
  | .c n => match μ[n]? with
    | some (.lst xs) => (toDs xs).map D.lst
    | _ => none
def lstV (μ : Mu) : Sv → Option (List Sv)
  | .d (.lst l) => some (l.map Sv.d)
  | .c n => match μ[n]? with
    | some (.lst xs) => some xs
    | _ => none
  | _ => none
@[simp] theorem dV_d (μ : Mu) (x : D) : dV μ (.d x) = some x := rfl
@[simp] theorem lstV_d (μ : Mu) (l : List D) : lstV μ (.d (.lst l)) = some (l.map Sv.d) := rfl
section
variable {G : Gx} {X : Cx} {W : WX} {F : Hp} {ρ : List Addr} {μ : Mu} {H : Hp}
theorem dV_at {v : V} {sv : Sv} {x : D} (w : Wf G F ρ μ H) (r : Rs G F ρ v sv) (h : dV μ sv = some x) : Rp G H v x := by
  cases sv with
  | d y => cases h; cases r with | d r => exact r.mono w.ex
  | c n =>
    cases r with
    | c hr =>
      unfold dV at h
      simp only at h
      split at h
      · rename_i xs hc
        obtain ⟨h0, vs, h1, h2⟩ := w.cell n _ _ hr hc
        cases ht : toDs xs with
        | none => rw [ht] at h; cases h
        | some ds =>
          rw [ht] at h; cases h
          have e := of_toDs ht
          subst e
          exact .lst (SqL.of h1) ((RsL.toD h2).mono w.ex)
      · cases h
theorem lstV_at {v : V} {sv : Sv} {xs : List Sv} (w : Wf G F ρ μ H) (r : Rs G F ρ v sv) (h : lstV μ sv = some xs) : ∃ a vs, v = .ref a ∧ SqL G.K H a vs ∧ RsL G F ρ vs xs := by
  cases sv with
  | d y =>
    cases r with
    | d r =>
      cases r with
      | lst h1 h2 => cases h; exact ⟨_, _, rfl, w.ex.l h1, RsL.ofD h2⟩
      | _ => cases h
  | c n =>
    cases r with
    | c hr =>
      unfold lstV at h
      simp only at h
      split at h
      · rename_i ys hc
        cases h
        obtain ⟨h0, vs, h1, h2⟩ := w.cell n _ _ hr hc
        exact ⟨_, vs, rfl, SqL.of h1, h2⟩
      · cases h

/-! ### data -/
def D.py : D → Option PyData
  | .non => some .none
  | .bl b => some (.bool b)
  | .int i => some (.int i)
  | .str s => some (.str ⟨s.toArray⟩)
  | .lst l => (pys l).map PyData.list
  | .tup l => (pys l).map PyData.tuple
  | .ins _ _ => none
  | .exc _ _ => none
where pys : List D → Option (List PyData)
  | [] => some []
  | x :: r => (D.py x).bind fun p => (pys r).map fun q => p :: q
mutual
theorem py_plain : ∀ (d : D) (p : PyData), d.py = some p → p.plain = true
  | .non, p, h => by simp only [D.py] at h; cases h; rfl
  | .bl b, p, h => by simp only [D.py] at h; cases h; rfl
  | .int i, p, h => by simp only [D.py] at h; cases h; rfl
  | .str s, p, h => by simp only [D.py] at h; cases h; rfl
  | .lst l, p, h => by
    simp only [D.py] at h
    cases hl : D.py.pys l with
    | none => rw [hl] at h; cases h
    | some q => rw [hl] at h; cases h; simp only [PyData.plain]; exact pys_plain l q hl
  | .tup l, p, h => by
    simp only [D.py] at h
    cases hl : D.py.pys l with
    | none => rw [hl] at h; cases h
    | some q => rw [hl] at h; cases h; simp only [PyData.plain]; exact pys_plain l q hl
  | .ins _ _, p, h => by simp only [D.py] at h; cases h
  | .exc _ _, p, h => by simp only [D.py] at h; cases h
theorem pys_plain : ∀ (d : List D) (p : List PyData), D.py.pys d = some p → PyData.plainAll p = true
  | [], p, h => by simp only [D.py.pys] at h; cases h; rfl
  | x :: r, p, h => by
    simp only [D.py.pys] at h
    cases hx : D.py x with
    | none => rw [hx] at h; cases h
    | some q =>
      rw [hx] at h
      cases hr : D.py.pys r with
      | none => rw [hr] at h; cases h
      | some qs =>
        rw [hr] at h; cases h
        simp only [PyData.plainAll, py_plain x q hx, pys_plain r qs hr, Bool.and_self]
end
mutual
theorem py_dp : ∀ {v : V} {d : D} {p : PyData}, Rp G H v d → d.py = some p → Dp G.K H v p
  | _, _, p, .non, h => by simp only [D.py] at h; cases h; exact .non
  | _, _, p, .bl b, h => by simp only [D.py] at h; cases h; exact .bl b
  | _, _, p, .int i, h => by simp only [D.py] at h; cases h; exact .int i
  | _, _, p, .str x, h => by simp only [D.py] at h; cases h; exact .str x
  | _, _, p, .lst (ds := l) h1 h2, h => by
    simp only [D.py] at h
    cases hl : D.py.pys l with
    | none => rw [hl] at h; cases h
    | some q => rw [hl] at h; cases h; exact .lst h1 (pys_dp h2 hl)
  | _, _, p, .tup (ds := l) h1 h2, h => by
    simp only [D.py] at h
    cases hl : D.py.pys l with
    | none => rw [hl] at h; cases h
    | some q => rw [hl] at h; cases h; exact .tup h1 (pys_dp h2 hl)
  | _, _, p, .ins _ _, h => by simp only [D.py] at h; cases h
  | _, _, p, .exc0 _, h => by simp only [D.py] at h; cases h
  | _, _, p, .excD _ _ _, h => by simp only [D.py] at h; cases h
theorem pys_dp : ∀ {v : List V} {d : List D} {p : List PyData}, RpL G H v d → D.py.pys d = some p → DpAll G.K H v p
  | _, _, p, .nil, h => by simp only [D.py.pys] at h; cases h; exact .nil
  | _, _, p, .cons (d := x) (ds := r) h1 h2, h => by
    simp only [D.py.pys] at h
    cases hx : D.py x with
    | none => rw [hx] at h; cases h
    | some q =>
      rw [hx] at h
      cases hr : D.py.pys r with
      | none => rw [hr] at h; cases h
      | some qs => rw [hr] at h; cases h; exact .cons (py_dp h1 hx) (pys_dp h2 hr)
end
/-- a == b on trees; none where it isn't told -/
def eqD (a b : D) : Option Bool := a.py.bind fun p => b.py.bind fun q => if min p.depth q.depth ≤ 60 then some (PyData.eqv p q) else none
def rEqP (K : PySem.W.Frag) : R2 := fun x y H Q => ∃ d e, Dp K H x d ∧ Dp K H y e ∧ d.plain = true ∧ e.plain = true ∧ min d.depth e.depth ≤ 60 ∧ Q (.bl (PyData.eqv d e)) H
def rNeP (K : PySem.W.Frag) : R2 := fun x y H Q => ∃ d e, Dp K H x d ∧ Dp K H y e ∧ d.plain = true ∧ e.plain = true ∧ min d.depth e.depth ≤ 60 ∧ Q (.bl (!PyData.eqv d e)) H
theorem op_eqP (hu : X.A.units + 64 < cLine) : OpR X (compareOp .Eq) (rEqP X.K) := by
  intro pins s σ H x y v u Q I rx ry h
  obtain ⟨d, e, hd, he, sd, se, hm, q⟩ := h
  obtain ⟨as, r1⟩ := Dp.reads I d x v hd rx
  obtain ⟨bs, r2⟩ := Dp.reads I e y u he ry
  exact SeqAt.eq_plain r1 r2 sd se (by omega) ⟨.bl _, H, I, rfl, q⟩
theorem op_neP (hu : X.A.units + 64 < cLine) : OpR X (compareOp .NotEq) (rNeP X.K) := by
  intro pins s σ H x y v u Q I rx ry h
  obtain ⟨d, e, hd, he, sd, se, hm, q⟩ := h
  obtain ⟨as, r1⟩ := Dp.reads I d x v hd rx
  obtain ⟨bs, r2⟩ := Dp.reads I e y u he ry
  exact SeqAt.ne_plain r1 r2 sd se (by omega) ⟨.bl _, H, I, rfl, q⟩
end
end Z
namespace Z
open PySem PySem.Spec PyProof.Rows L2
abbrev okz (d : D) (μ : Mu) : Rz Sv := some (.ok (.d d), μ)
theorem szl : sizeLine = 16777216 := sizeLine_eq
section
variable {G : Gx} {X : Cx} {W : WX} {F : Hp} {ρ : List Addr} {μ : Mu} {H : Hp}

/-! ### lists that are read, joined -/
def rCatR (K : PySem.W.Frag) : R2 := fun x y H Q => ∃ l b xs zs, x = .ref l ∧ y = .ref b ∧ SqL K H l xs ∧ SqL K H b zs ∧ xs.length + zs.length ≤ sizeLine ∧ ∀ p, H p = none → Q (.ref p) (upd H p (.lst (xs ++ zs)))
theorem op_catR : OpR X (binaryOp .Add) (rCatR X.K) := by
  intro pins s σ H x y v u Q I rx ry h
  obtain ⟨l, b, xs, zs, rfl, rfl, hH, hB, hz, q⟩ := h
  cases rx; cases ry
  obtain ⟨its, r, p1, _⟩ := I.list hH
  obtain ⟨its2, r2, p2, _⟩ := I.list hB
  have l1 := r.length
  have l2 := r2.length
  obtain ⟨⟨c1, d1, dt1, sl1⟩, ho1, hc1, n1, hd1⟩ := p1.isList
  obtain ⟨⟨c2, d2, dt2, sl2⟩, ho2, hc2, n2, hd2⟩ := p2.isList
  simp only at hc1 hd1 hc2 hd2
  subst hc1 hd1 hc2 hd2
  refine concat_meets ⟨_, ho1, rfl⟩ ⟨_, ho2, rfl⟩ noFill_list_add seq_list_add PySem.F.slot_list_add PySem.F.entry_list_add (PySem.F.args_list_add_2 _ _) (list_addW l b its.toArray its2.toArray n1 n2 d1 d2 sl1 sl2 (by rw [List.size_toArray, List.size_toArray]; omega)) ⟨ho1, ho2, ?_⟩
  have ea : its.toArray ++ its2.toArray = (its ++ its2).toArray := by simp
  rw [ea]
  exact ⟨.ref _, _, I.lnew (t' := s.toks) (r.append r2) (by rw [List.length_append]; omega), rfl, q _ I.fresh⟩

/-! ### + -/
def catL (μ : Mu) (a b : Sv) : Option (List D) := match lstV μ a, lstV μ b with
  | some xs, some ys => toDs (xs ++ ys)
  | _, _ => none
def oAdd : Op2 := fun a b μ => match a, b with
  | .d (.int i), .d (.int j) => okz (.int (i + j)) μ
  | .d (.int i), .d (.bl k) => okz (.int (i + b2i k)) μ
  | .d (.str a), .d (.str b) => if a.length + b.length ≤ 16777216 then okz (.str (a ++ b)) μ else none
  | .d (.tup a), .d (.tup b) => if a = [] then none else if a.length + b.length ≤ 16777216 then okz (.tup (a ++ b)) μ else none
  | a, b => match catL μ a b with
    | some l => if l.length ≤ 16777216 then okz (.lst l) μ else none
    | none => none
def rAddZ (K : PySem.W.Frag) : R2 := fun x y H Q => (((rI0 fun i j => .int (i + j)) x y H Q ∨ (∃ i k, x = .int i ∧ y = .bl k ∧ Q (.int (i + b2i k)) H)) ∨ ((∃ i j, x = .str i ∧ y = .str j ∧ i.length + j.length ≤ sizeLine ∧ Q (.str (i ++ j)) H) ∨ rCatT K x y H Q)) ∨ rCatR K x y H Q
theorem op_addZ : OpR X (binaryOp .Add) (rAddZ X.K) := orR (orR (orR op_add op_add_ib) (orR op_add_str op_catT)) op_catR
theorem so_add (hK : G.K = X.K) : SOp2 G W (rAddZ X.K) oAdd := by
  intro F ρ μ H σ x y a b rr Q w rx ry h p
  unfold oAdd at h
  split at h
  · cases h; cases rx with | d rx => cases rx; cases ry with | d ry => cases ry; exact .inl (.inl (.inl ⟨_, _, rfl, rfl, p.ok w (.d (.int _))⟩))
  · cases h; cases rx with | d rx => cases rx; cases ry with | d ry => cases ry; exact .inl (.inl (.inr ⟨_, _, rfl, rfl, p.ok w (.d (.int _))⟩))
  · split at h
    · cases h
      rename_i hl
      cases rx with | d rx => cases rx; cases ry with | d ry => cases ry; exact .inl (.inr (.inl ⟨_, _, rfl, rfl, by rw [lenS, lenS, szl]; exact hl, p.ok w (.d (rpS (TL.tl_append _ _)))⟩))
    · cases h
  · split at h
    · cases h
    · rename_i ha
      cases rx with
      | d rx =>
        cases ry with
        | d ry =>
          have rx0 := rx
          cases rx with
          | tup h1 h2 =>
            cases ry with
            | tup h3 h4 =>
              have t1 := w.ex.t h1
              have t2 := w.ex.t h3
              rw [hK] at t1 t2
              have n1 := h2.len
              have n2 := h4.len
              refine .inl (.inr (.inr ⟨_, _, _, _, rfl, rfl, t1, t2, fun z => ha (by subst z; cases h2; rfl), ?_⟩))
              split at h
              · rename_i hl
                cases h
                refine ⟨by rw [n1, n2, szl]; exact hl, fun z => ?_, fun _ q hq => ?_⟩
                · subst z
                  cases h4
                  rw [List.append_nil] at p
                  exact p.ok w (.d rx0)
                · obtain ⟨w2, g2⟩ := w.newD hq (.tup _)
                  exact p _ _ _ _ g2 w2 (.d (.tup (SqT.of upd_same) (RpL.mono g2.f (by
                    have := (RsL.ofD (ρ := ρ) h2).app (RsL.ofD h4)
                    rw [← List.map_append] at this
                    exact RsL.toD this))))
              · cases h
  · split at h
    · rename_i l hc
      split at h
      · rename_i hl
        cases h
        unfold catL at hc
        split at hc
        · rename_i xs ys h1 h2
          obtain ⟨ax, vs, rfl, r1, s1⟩ := lstV_at w rx h1
          obtain ⟨ay, ws, rfl, r2, s2⟩ := lstV_at w ry h2
          have e := of_toDs hc
          have ss := s1.app s2
          rw [e] at ss
          refine .inr ⟨_, _, _, _, rfl, rfl, (by rw [← hK]; exact r1), (by rw [← hK]; exact r2), ?_, fun q hq => ?_⟩
          · have := ss.len
            rw [List.length_append, List.length_map] at this
            rw [this, szl]; exact hl
          · obtain ⟨w2, g2⟩ := w.newD hq (.lst (vs ++ ws))
            exact p _ _ _ _ g2 w2 (.d (.lst (SqL.of upd_same) ((RsL.toD ss).mono g2.f)))
        · cases hc
      · cases h
    · cases h
end
end Z
namespace Z
open PySem PySem.Spec PyProof.Rows L2
section
variable {G : Gx} {X : Cx} {W : WX} {F : Hp} {ρ : List Addr} {μ : Mu} {H : Hp}
/-! ### whole numbers -/
def oII (C : Int → Int → Bool) (g : Int → Int → D) : Op2 := fun a b μ => match a, b with
  | .d (.int i), .d (.int j) => if C i j = true then okz (g i j) μ else none
  | _, _ => none
theorem so_ii {C : Int → Int → Bool} {g : Int → Int → D} {C' : Int → Int → Prop} {g' : Int → Int → V} (hC : ∀ i j, C i j = true → C' i j) (hg : ∀ F i j, Rp G F (g' i j) (g i j)) : SOp2 G W (rI C' g') (oII C g) := by
  intro F ρ μ H σ x y a b rr Q w rx ry h p
  unfold oII at h
  split at h
  · split at h
    · rename_i hc
      cases h; cases rx with | d rx => cases rx; cases ry with | d ry => cases ry; exact ⟨_, _, rfl, rfl, hC _ _ hc, p.ok w (.d (hg _ _ _))⟩
    · cases h
  · cases h
def oII0 (g : Int → Int → D) : Op2 := fun a b μ => match a, b with
  | .d (.int i), .d (.int j) => okz (g i j) μ
  | _, _ => none
theorem so_ii0 {g : Int → Int → D} {g' : Int → Int → V} (hg : ∀ F i j, Rp G F (g' i j) (g i j)) : SOp2 G W (rI0 g') (oII0 g) := by
  intro F ρ μ H σ x y a b rr Q w rx ry h p
  unfold oII0 at h
  split at h
  · cases h; cases rx with | d rx => cases rx; cases ry with | d ry => cases ry; exact ⟨_, _, rfl, rfl, p.ok w (.d (hg _ _ _))⟩
  · cases h
def oSub : Op2 := oII0 fun i j => .int (i - j)
theorem so_sub : SOp2 G W (rI0 fun i j => .int (i - j)) oSub := so_ii0 fun _ _ _ => .int _
def oDiv : Op2 := oII (fun i j => decide (0 < j ∧ j < 1073741824)) fun i j => .int (i / j)
theorem so_div : SOp2 G W (rI CDiv fun i j => .int (i / j)) oDiv := so_ii (fun i j h => (of_decide_eq_true h : 0 < j ∧ j < 1073741824)) fun _ _ _ => .int _
def oMod : Op2 := oII (fun i j => decide (0 < j)) fun i j => .int (i % j)
theorem so_mod : SOp2 G W (rI (fun _ j => 0 < j) fun i j => .int (i % j)) oMod := so_ii (fun i j h => of_decide_eq_true h) fun _ _ _ => .int _
def oPow : Op2 := oII (fun i j => decide (0 ≤ j ∧ j ≤ 1000000 ∧ i.natAbs < 2 ^ 64)) fun i j => .int (i ^ j.toNat)
theorem so_pow : SOp2 G W (rI CPow fun i j => .int (i ^ j.toNat)) oPow := so_ii (fun i j h => (of_decide_eq_true h : 0 ≤ j ∧ j ≤ 1000000 ∧ i.natAbs < 2 ^ 64)) fun _ _ _ => .int _
def oMulI : Op2 := oII (fun i j => decide ((-(2 ^ 64) < i ∧ i < 2 ^ 64) ∨ (-(2 ^ 64) < j ∧ j < 2 ^ 64))) fun i j => .int (i * j)
theorem so_mulI : SOp2 G W (rI CMul fun i j => .int (i * j)) oMulI := so_ii (fun i j h => (of_decide_eq_true h : (-(2 ^ 64) < i ∧ i < 2 ^ 64) ∨ (-(2 ^ 64) < j ∧ j < 2 ^ 64))) fun _ _ _ => .int _
def oLt : Op2 := oII0 fun i j => .bl (decide (i < j))
theorem so_lt : SOp2 G W (rI0 fun i j => .bl (decide (i < j))) oLt := so_ii0 fun _ _ _ => .bl _
def oLe : Op2 := oII0 fun i j => .bl (decide (i ≤ j))
theorem so_le : SOp2 G W (rI0 fun i j => .bl (decide (i ≤ j))) oLe := so_ii0 fun _ _ _ => .bl _
def oGt : Op2 := oII0 fun i j => .bl (decide (i > j))
theorem so_gt : SOp2 G W (rI0 fun i j => .bl (decide (i > j))) oGt := so_ii0 fun _ _ _ => .bl _
def oGe : Op2 := oII0 fun i j => .bl (decide (i ≥ j))
theorem so_ge : SOp2 G W (rI0 fun i j => .bl (decide (i ≥ j))) oGe := so_ii0 fun _ _ _ => .bl _
theorem op_gtZ : OpR X (compareOp .Gt) (rI0 fun i j => .bl (decide (i > j))) := op_gt
theorem op_geZ : OpR X (compareOp .GtE) (rI0 fun i j => .bl (decide (i ≥ j))) := op_ge
theorem op_ltZ : OpR X (compareOp .Lt) (rI0 fun i j => .bl (decide (i < j))) := op_lt
theorem op_leZ : OpR X (compareOp .LtE) (rI0 fun i j => .bl (decide (i ≤ j))) := op_le
/-- -a -/
def SOp1 (G : Gx) (W : WX) (r : V → Hp → VK → Prop) (o : Op1) : Prop := ∀ (F : Hp) (ρ : List Addr) (μ : Mu) (H : Hp) (σ : L2.St) (x : V) (a : Sv) (rr : Except Exn Sv × Mu) (Q : VK),
  Wf G F ρ μ H → Rs G F ρ x a → o a μ = some rr → Post G W σ F ρ (Rs G) Q rr → r x H Q
def oNeg : Op1 := fun a μ => match a with
  | .d (.int i) => okz (.int (-i)) μ
  | _ => none
theorem z_neg {a : Expr} {fa : Fz Sv} {pos : Pos} (ha : PE X a (zE G W fa)) : PE X (.UnaryOp .USub a pos) (zE G W (fOp1 oNeg fa)) := peImp (pe_un un_neg ha) fun σ H Q q => by
  obtain ⟨F, ρ, δ, μ, rr, w, s, e, p⟩ := q
  refine zstep w s e p fun sa μ1 x F1 ρ1 H1 g1 w1 s1 rx e1 p1 => ?_
  unfold oNeg at e1
  split at e1
  · cases e1; cases rx with | d rx => cases rx; exact ⟨_, rfl, p1.ok w1 (.d (.int _))⟩
  · cases e1

/-! ### ==, !=, is, in -/
def oEq : Op2 := fun a b μ => match dV μ a, dV μ b with
  | some x, some y => match eqD x y with
    | some r => okz (.bl r) μ
    | none => none
  | _, _ => none
def oNe : Op2 := fun a b μ => match dV μ a, dV μ b with
  | some x, some y => match eqD x y with
    | some r => okz (.bl (!r)) μ
    | none => none
  | _, _ => none
theorem eqD_some {x y : D} {r : Bool} (h : eqD x y = some r) : ∃ p q, x.py = some p ∧ y.py = some q ∧ min p.depth q.depth ≤ 60 ∧ r = PyData.eqv p q := by
  unfold eqD at h
  cases hx : x.py with
  | none => rw [hx] at h; cases h
  | some p =>
    cases hy : y.py with
    | none => rw [hx, hy] at h; cases h
    | some q =>
      rw [hx, hy] at h
      simp only [Option.bind_some] at h
      split at h
      · rename_i hm
        cases h
        exact ⟨p, q, rfl, rfl, hm, rfl⟩
      · cases h
theorem so_eq (hK : G.K = X.K) : SOp2 G W (rEqP X.K) oEq := by
  intro F ρ μ H σ x y a b rr Q w rx ry h p
  unfold oEq at h
  split at h
  · rename_i dx dy h1 h2
    split at h
    · rename_i r hr
      cases h
      obtain ⟨p1, q1, e1, e2, hm, rfl⟩ := eqD_some hr
      rw [← hK]
      exact ⟨p1, q1, py_dp (dV_at w rx h1) e1, py_dp (dV_at w ry h2) e2, py_plain _ _ e1, py_plain _ _ e2, hm, p.ok w (.d (.bl _))⟩
    · cases h
  · cases h
theorem so_ne (hK : G.K = X.K) : SOp2 G W (rNeP X.K) oNe := by
  intro F ρ μ H σ x y a b rr Q w rx ry h p
  unfold oNe at h
  split at h
  · rename_i dx dy h1 h2
    split at h
    · rename_i r hr
      cases h
      obtain ⟨p1, q1, e1, e2, hm, rfl⟩ := eqD_some hr
      rw [← hK]
      exact ⟨p1, q1, py_dp (dV_at w rx h1) e1, py_dp (dV_at w ry h2) e2, py_plain _ _ e1, py_plain _ _ e2, hm, p.ok w (.d (.bl _))⟩
    · cases h
  · cases h
def isNon : Sv → Bool
  | .d .non => true
  | _ => false
theorem isNon_v {v : V} {a : Sv} (r : Rs G F ρ v a) : decide (v = .non) = isNon a := by
  cases r with
  | d r => cases r <;> rfl
  | c h => rfl
def oIsN : Op2 := fun a b μ => match b with
  | .d .non => okz (.bl (isNon a)) μ
  | _ => none
def oNotN : Op2 := fun a b μ => match b with
  | .d .non => okz (.bl (!isNon a)) μ
  | _ => none
theorem so_isN : SOp2 G W (fun x y H Q => y = .non ∧ Q (.bl (decide (x = .non))) H) oIsN := by
  intro F ρ μ H σ x y a b rr Q w rx ry h p
  unfold oIsN at h
  split at h
  · cases h; cases ry with | d ry => cases ry; exact ⟨rfl, by rw [isNon_v rx]; exact p.ok w (.d (.bl _))⟩
  · cases h
theorem so_notN : SOp2 G W (fun x y H Q => y = .non ∧ Q (.bl (!decide (x = .non))) H) oNotN := by
  intro F ρ μ H σ x y a b rr Q w rx ry h p
  unfold oNotN at h
  split at h
  · cases h; cases ry with | d ry => cases ry; exact ⟨rfl, by rw [isNon_v rx]; exact p.ok w (.d (.bl _))⟩
  · cases h
/-- x in a list, a tuple, a sign in a text -/
def inD (x y : D) : Option Bool := match x, y with
  | .str [c], .str s => some (decide (c ∈ s))
  | x, .lst l => x.py.bind fun p => (D.py.pys l).bind fun q => if min (PyData.depthAll q) p.depth ≤ 60 then some (q.any fun z => PyData.eqv z p) else none
  | x, .tup l => x.py.bind fun p => (D.py.pys l).bind fun q => if min (PyData.depthAll q) p.depth ≤ 60 then some (q.any fun z => PyData.eqv z p) else none
  | _, _ => none
def rInP (K : PySem.W.Frag) (neg : Bool) : R2 := fun x y H Q => (∃ (c : Nat) (z : Str), x = .str ⟨#[c]⟩ ∧ y = .str z ∧ Q (.bl (if neg then !decide (c ∈ z.cps.toList) else decide (c ∈ z.cps.toList))) H) ∨
  (∃ d ds, Dp K H x d ∧ (Dp K H y (.list ds) ∨ Dp K H y (.tuple ds)) ∧ d.plain = true ∧ PyData.plainAll ds = true ∧ min (PyData.depthAll ds) d.depth ≤ 60 ∧ Q (.bl (if neg then !(ds.any fun z => PyData.eqv z d) else ds.any fun z => PyData.eqv z d)) H)
theorem op_inP (hu : X.A.units + 64 < cLine) : OpR X (compareOp .In) (rInP X.K false) := by
  intro pins s σ H x y v u Q I rx ry h
  rcases h with h | ⟨d, ds, hd, he, sd, se, hm, q⟩
  · exact op_in_sign pins s σ H x y v u Q I rx ry h
  · obtain ⟨as, r1⟩ := Dp.reads I d x v hd rx
    rcases he with he | he
    · obtain ⟨bs, r2⟩ := Dp.reads I _ y u he ry
      exact SeqAt.in_list_data r2 r1 se sd (by omega) ⟨.bl _, H, I, rfl, q⟩
    · obtain ⟨bs, r2⟩ := Dp.reads I _ y u he ry
      exact SeqAt.in_tuple_data r2 r1 se sd (by omega) ⟨.bl _, H, I, rfl, q⟩
theorem op_notInP (hu : X.A.units + 64 < cLine) : OpR X (compareOp .NotIn) (rInP X.K true) := by
  intro pins s σ H x y v u Q I rx ry h
  rcases h with h | ⟨d, ds, hd, he, sd, se, hm, q⟩
  · exact op_notIn_sign pins s σ H x y v u Q I rx ry h
  · obtain ⟨as, r1⟩ := Dp.reads I d x v hd rx
    rcases he with he | he
    · obtain ⟨bs, r2⟩ := Dp.reads I _ y u he ry
      exact SeqAt.notIn_list_data r2 r1 se sd (by omega) ⟨.bl _, H, I, rfl, q⟩
    · obtain ⟨bs, r2⟩ := Dp.reads I _ y u he ry
      exact SeqAt.notIn_tuple_data r2 r1 se sd (by omega) ⟨.bl _, H, I, rfl, q⟩
def oIn : Op2 := fun a b μ => match dV μ a, dV μ b with
  | some x, some y => match inD x y with
    | some r => okz (.bl r) μ
    | none => none
  | _, _ => none
def oNotIn : Op2 := fun a b μ => match dV μ a, dV μ b with
  | some x, some y => match inD x y with
    | some r => okz (.bl (!r)) μ
    | none => none
  | _, _ => none
theorem rp_strE {v : V} {s : List Nat} (r : Rp G F v (.str s)) : ∃ x : Str, v = .str x ∧ x.cps.toList = s := by cases r; exact ⟨_, rfl, rfl⟩
theorem inD_at {x y : V} {dx dy : D} {r : Bool} {neg : Bool} {Q : VK} (rx : Rp G H x dx) (ry : Rp G H y dy) (h : inD dx dy = some r) (q : Q (.bl (if neg then !r else r)) H) : rInP G.K neg x y H Q := by
  unfold inD at h
  split at h
  · cases h
    obtain ⟨x1, rfl, e1⟩ := rp_strE rx
    obtain ⟨y1, rfl, e2⟩ := rp_strE ry
    refine .inl ⟨_, _, ?_, rfl, by rw [e2]; exact q⟩
    congr 1
    exact TL.ext_tl (by rw [TL.tl_mk]; exact e1)
  · rename_i l
    cases hx : dx.py with
    | none => rw [hx] at h; cases h
    | some p =>
      cases hy : D.py.pys l with
      | none => rw [hx, hy] at h; cases h
      | some ps =>
        rw [hx, hy] at h
        simp only [Option.bind_some] at h
        split at h
        · rename_i hm
          cases h
          exact .inr ⟨p, ps, py_dp rx hx, .inl (py_dp ry (by simp only [D.py, hy, Option.map_some])), py_plain _ _ hx, pys_plain _ _ hy, hm, q⟩
        · cases h
  · rename_i l
    cases hx : dx.py with
    | none => rw [hx] at h; cases h
    | some p =>
      cases hy : D.py.pys l with
      | none => rw [hx, hy] at h; cases h
      | some ps =>
        rw [hx, hy] at h
        simp only [Option.bind_some] at h
        split at h
        · rename_i hm
          cases h
          exact .inr ⟨p, ps, py_dp rx hx, .inr (py_dp ry (by simp only [D.py, hy, Option.map_some])), py_plain _ _ hx, pys_plain _ _ hy, hm, q⟩
        · cases h
  · cases h
theorem so_in (hK : G.K = X.K) : SOp2 G W (rInP X.K false) oIn := by
  intro F ρ μ H σ x y a b rr Q w rx ry h p
  unfold oIn at h
  split at h
  · rename_i dx dy h1 h2
    split at h
    · rename_i r hr
      cases h
      rw [← hK]
      exact inD_at (neg := false) (dV_at w rx h1) (dV_at w ry h2) hr (p.ok w (.d (.bl _)))
    · cases h
  · cases h
theorem so_notIn (hK : G.K = X.K) : SOp2 G W (rInP X.K true) oNotIn := by
  intro F ρ μ H σ x y a b rr Q w rx ry h p
  unfold oNotIn at h
  split at h
  · rename_i dx dy h1 h2
    split at h
    · rename_i r hr
      cases h
      rw [← hK]
      exact inD_at (neg := true) (dV_at w rx h1) (dV_at w ry h2) hr (p.ok w (.d (.bl _)))
    · cases h
  · cases h
end
end Z
namespace Z
open PySem PySem.Spec PyProof.Rows L2
section
variable {G : Gx} {X : Cx} {W : WX} {F : Hp} {ρ : List Addr} {μ : Mu} {H : Hp} {a b e : Expr} {es : List Expr} {fa fb : Fz Sv} {fr : Fz (List Sv)} {pos p2 : Pos}
theorem RsL.atI {vs : List V} {xs : List Sv} {i : Int} {y : Sv} (r : RsL G F ρ vs xs) (h : L2.atI xs i = some y) : ∃ v, L2.atI vs i = some v ∧ Rs G F ρ v y := by
  unfold L2.atI at h ⊢
  rw [r.len]
  cases e : ixN xs.length i with
  | none => rw [e] at h; cases h
  | some j => rw [e] at h; exact r.get h
theorem atI_map {α β : Type} (f : α → β) (l : List α) (i : Int) : L2.atI (l.map f) i = (L2.atI l i).map f := by
  unfold L2.atI
  rw [List.length_map]
  cases ixN l.length i with
  | none => rfl
  | some j => simp

/-! ### subscripts -/
def keyOf : Sv → Option Key
  | .d (.int i) => some (.inl i)
  | .d (.str s) => some (.inr ⟨s.toArray⟩)
  | _ => none
def lookK (kvs : List (Key × Sv)) (k : Key) : Option Sv := (kvs.find? fun kv => decide (kv.1 = k)).map (·.2)
theorem keyOf_at {v : V} {y : Sv} {k : Key} (r : Rs G F ρ v y) (h : keyOf y = some k) : v = kV k := by
  unfold keyOf at h
  split at h
  · cases h; cases r with | d r => cases r; rfl
  · cases h; cases r with | d r => cases r; rfl
  · cases h
theorem lookK_at : ∀ {vs : List (Key × V)} {xs : List (Key × Sv)} {k : Key} {y : Sv}, RsK G F ρ vs xs → lookK xs k = some y → ∃ v, valV vs k = some v ∧ Rs G F ρ v y
  | _, _, _, _, .nil, h => by cases h
  | _, _, k, y, .cons (k := k') (v := v) q r, h => by
    unfold lookK at h
    rw [List.find?_cons] at h
    by_cases hk : k' = k
    · simp only [hk, decide_true] at h
      cases h
      exact ⟨v, by rw [valV_pos hk], q⟩
    · simp only [hk, decide_false] at h
      obtain ⟨v', h1, h2⟩ := lookK_at (k := k) (y := y) r h
      exact ⟨v', by rw [valV_neg hk]; exact h1, h2⟩
theorem lookK_none : ∀ {vs : List (Key × V)} {xs : List (Key × Sv)} {k : Key}, RsK G F ρ vs xs → lookK xs k = none → valV vs k = none
  | _, _, _, .nil, _ => rfl
  | _, _, k, .cons (k := k') (v := v) q r, h => by
    unfold lookK at h
    rw [List.find?_cons] at h
    by_cases hk : k' = k
    · simp only [hk, decide_true] at h
      cases h
    · simp only [hk, decide_false] at h
      rw [valV_neg hk]
      exact lookK_none r h
def oIx : Op2 := fun a b μ => match a, b with
  | .d (.str s), .d (.int i) => if s.length ≤ 16777216 then (match L2.atI s i with
    | some c => okz (.str [c]) μ
    | none => none) else none
  | .d (.tup l), .d (.int i) => match L2.atI l i with
    | some x => okz x μ
    | none => none
  | .d (.lst l), .d (.int i) => match L2.atI l i with
    | some x => okz x μ
    | none => none
  | .c n, b => match μ[n]? with
    | some (.lst xs) => match b with
      | .d (.int i) => match L2.atI xs i with
        | some x => some (.ok x, μ)
        | none => none
      | _ => none
    | some (.dct kvs) => match keyOf b with
      | some k => match lookK kvs k with
        | some x => some (.ok x, μ)
        | none => none
      | none => none
    | _ => none
  | _, _ => none
def rIxD : R2 := fun x y H Q => ∃ a v, x = .ref a ∧ DGet H a y (some v) ∧ Q v H
theorem ix_dict (hu : X.A.units + 1 < cLine) : IxR X rIxD := by
  intro value slice pins s σ H x y v u Q I rx ry h hs
  obtain ⟨a, z, rfl, g, q⟩ := h
  obtain rfl : v = Value.ref a := rx
  exact tail_any (dict_typeIs I g) PySem.F.slot_dict_getitem.lookup (d_getItem hu I g ry fun w' s3 I3 rw' => ⟨z, H, I3, rw', q⟩) hs
def rIxZ (K : PySem.W.Frag) : R2 := fun x y H Q => rIx K x y H Q ∨ rIxD x y H Q
theorem ix_Z (hu : X.A.units + 1 < cLine) : IxR X (rIxZ X.K) := ix_seq.or (ix_dict hu)
theorem so_ix (hK : G.K = X.K) : SOp2 G W (rIxZ X.K) oIx := by
  intro F ρ μ H σ x y a b rr Q w rx ry h p
  unfold oIx at h
  split at h
  · split at h
    · rename_i hl
      split at h
      · rename_i c hc
        cases h
        cases rx with | d rx => cases rx; cases ry with | d ry => cases ry; exact .inl (.inr (.inr ⟨_, _, c, rfl, rfl, by rw [lenS, szl]; exact hl, hc, p.ok w (.d (rpS rfl))⟩))
      · cases h
    · cases h
  · split at h
    · rename_i l i x hx
      cases h
      cases rx with
      | d rx => cases rx with
        | tup h1 h2 =>
          cases ry with
          | d ry =>
            cases ry
            obtain ⟨v, hv, rv⟩ := RsL.atI (RsL.ofD (ρ := ρ) h2) (by rw [atI_map, hx]; rfl)
            exact .inl (.inr (.inl ⟨_, _, _, v, rfl, rfl, by rw [← hK]; exact w.ex.t h1, hv, p.ok w rv⟩))
    · cases h
  · split at h
    · rename_i l i x hx
      cases h
      cases rx with
      | d rx => cases rx with
        | lst h1 h2 =>
          cases ry with
          | d ry =>
            cases ry
            obtain ⟨v, hv, rv⟩ := RsL.atI (RsL.ofD (ρ := ρ) h2) (by rw [atI_map, hx]; rfl)
            exact .inl (.inl ⟨_, _, _, v, rfl, rfl, by rw [← hK]; exact w.ex.l h1, hv, p.ok w rv⟩)
    · cases h
  · cases rx with
    | c hr =>
      split at h
      · rename_i xs hxs
        split at h
        · split at h
          · rename_i z hz
            cases h
            cases ry with
            | d ry =>
              cases ry
              obtain ⟨_, vs, h1, h2⟩ := w.cell _ _ _ hr hxs
              obtain ⟨v, hv, rv⟩ := RsL.atI h2 hz
              exact .inl (.inl ⟨_, _, _, v, rfl, rfl, .inl (.inl h1), hv, p.ok w rv⟩)
          · cases h
        · cases h
      · rename_i kvs hk
        split at h
        · rename_i k hkey
          split at h
          · rename_i z hz
            cases h
            obtain ⟨_, vs, h1, h2⟩ := w.cell _ _ _ hr hk
            obtain ⟨v, hv, rv⟩ := lookK_at h2 hz
            refine .inr ⟨_, v, rfl, ?_, p.ok w rv⟩
            rw [keyOf_at ry hkey]
            exact .inl ⟨vs, k, .inl h1, rfl, hv.symm⟩
          · cases h
        · cases h
      · cases h
  · cases h
theorem z_ix (hK : G.K = X.K) (hu : X.A.units + 1 < cLine) (ha : PE X a (zE G W fa)) (hb : PE X b (zE G W fb)) (hs : PlainIx b) : PE X (.Subscript a b pos) (zE G W (fOp2 oIx fa fb)) :=
  peImp (pe_ix (ix_Z hu) ha hb hs) fun _ _ _ q => zop2 (so_ix hK) q

/-! ### slices -/
def cutL {α : Type} (xs : List α) (lo hi : Option Int) : List α := (xs.drop (HT.sIx xs.length 0 lo)).take (HT.sIx xs.length xs.length hi - HT.sIx xs.length 0 lo)
def fNo : Fz (Option Int) := fun _ μ => some (.ok none, μ)
def fPt (fa : Fz Sv) : Fz (Option Int) := fun δ μ => (fa δ μ).bind fun a μ => match a with
  | .d (.int i) => some (.ok (some i), μ)
  | _ => none
theorem zo_no : PO X none (zO G W fNo) := poImp po_none fun σ H Q q => by
  obtain ⟨F, ρ, δ, μ, rr, w, s, e, p⟩ := q
  cases e
  exact p.ok w rfl
theorem zo_pt (h : PE X e (zE G W fa)) : PO X (some e) (zO G W (fPt fa)) := poImp (po_some h) fun σ H Q q => by
  obtain ⟨F, ρ, δ, μ, rr, w, s, e, p⟩ := q
  refine zstep w s e p fun sa μ1 x F1 ρ1 H1 g1 w1 s1 rx e1 p1 => ?_
  split at e1
  · cases e1; cases rx with | d rx => cases rx; exact ⟨_, rfl, p1.ok w1 rfl⟩
  · cases e1
def oSl (x : Sv) (lo hi : Option Int) (μ : Mu) : Rz Sv := match x with
  | .d (.str s) => if s.length ≤ 16777216 then okz (.str (cutL s lo hi)) μ else none
  | .d (.tup l) => if HT.sIx l.length 0 lo = 0 ∧ HT.sIx l.length l.length hi = l.length then none else okz (.tup (cutL l lo hi)) μ
  | x => match lstV μ x with
    | some xs => match toDs (cutL xs lo hi) with
      | some ds => okz (.lst ds) μ
      | none => none
    | none => none
def fSl (fa : Fz Sv) (fl fh : Fz (Option Int)) : Fz Sv := fun δ μ => (fa δ μ).bind fun a μ => (fl δ μ).bind fun lo μ => (fh δ μ).bind fun hi μ => oSl a lo hi μ
theorem RsL.cut {vs : List V} {xs : List Sv} (r : RsL G F ρ vs xs) (lo hi : Option Int) : RsL G F ρ (cutV vs lo hi) (cutL xs lo hi) := by
  unfold cutV cutL
  rw [r.len]
  exact (r.drop _).take _
theorem cutL_map {α β : Type} (f : α → β) (l : List α) (lo hi : Option Int) : cutL (l.map f) lo hi = (cutL l lo hi).map f := by
  unfold cutL
  rw [List.length_map, List.map_take, List.map_drop]
def rSlZ (K : PySem.W.Frag) : V → Option Int → Option Int → Hp → VK → Prop := fun x lo hi H Q => rSlL K x lo hi H Q ∨ (rSlS x lo hi H Q ∨ rSlT K x lo hi H Q)
theorem sl_Z : SlR X (rSlZ X.K) := sl_list.or (sl_str.or sl_tup)
theorem oSl_at (hK : G.K = X.K) {σ : L2.St} {x : V} {a : Sv} {lo hi : Option Int} {rr : Except Exn Sv × Mu} {Q : VK} (w : Wf G F ρ μ H) (rx : Rs G F ρ x a) (h : oSl a lo hi μ = some rr) (p : Post G W σ F ρ (Rs G) Q rr) : rSlZ X.K x lo hi H Q := by
  unfold oSl at h
  split at h
  · split at h
    · rename_i hl
      cases h
      cases rx with | d rx => cases rx; exact .inr (.inl ⟨_, rfl, by rw [lenS, szl]; exact hl, p.ok w (.d (rpS (by unfold cutS cutL; rw [lenS])))⟩)
    · cases h
  · split at h
    · cases h
    · rename_i hn
      cases h
      cases rx with
      | d rx => cases rx with
        | tup h1 h2 =>
          have t1 := w.ex.t h1
          rw [hK] at t1
          refine .inr (.inr ⟨_, _, rfl, t1, by rw [h2.len]; exact hn, fun q hq => ?_⟩)
          obtain ⟨w2, g2⟩ := w.newD hq (.tup (cutV _ lo hi))
          have rr := (RsL.ofD (ρ := ρ) h2).cut lo hi
          rw [cutL_map] at rr
          exact p _ _ _ _ g2 w2 (.d (.tup (SqT.of upd_same) ((RsL.toD rr).mono g2.f)))
  · split at h
    · rename_i xs hx
      split at h
      · rename_i ds hd
        cases h
        obtain ⟨ax, vs, rfl, r1, s1⟩ := lstV_at w rx hx
        refine .inl ⟨_, _, rfl, by rw [← hK]; exact r1, fun q hq => ?_⟩
        obtain ⟨w2, g2⟩ := w.newD hq (.lst (cutV vs lo hi))
        have rr := s1.cut lo hi
        rw [of_toDs hd] at rr
        exact p _ _ _ _ g2 w2 (.d (.lst (SqL.of upd_same) ((RsL.toD rr).mono g2.f)))
      · cases h
    · cases h
theorem z_sl (hK : G.K = X.K) {lo hi : Option Expr} {fl fh : Fz (Option Int)} (ha : PE X a (zE G W fa)) (hl : PO X lo (zO G W fl)) (hh : PO X hi (zO G W fh)) : PE X (.Subscript a (.Slice lo hi none p2) pos) (zE G W (fSl fa fl fh)) := peImp (pe_slice sl_Z ha hl hh) fun σ H Q q => by
  obtain ⟨F, ρ, δ, μ, rr, w, s, e, p⟩ := q
  refine zstep w s e p fun sa μ1 x F1 ρ1 H1 g1 w1 s1 rx e1 p1 => ?_
  refine zstep w1 s1 e1 p1 fun lo μ2 lo' F2 ρ2 H2 g2 w2 s2 rlo e2 p2 => ?_
  refine zstep w2 s2 e2 p2 fun hi μ3 hi' F3 ρ3 H3 g3 w3 s3 rhi e3 p3 => ?_
  subst rlo rhi
  exact oSl_at hK w3 (rx.mono (g2.trans g3)) e3 p3

/-! ### displays -/
def fLst (fr : Fz (List Sv)) : Fz Sv := fun δ μ => (fr δ μ).bind fun as μ => match toDs as with
  | some ds => if ds.length ≤ 16777216 then okz (.lst ds) μ else none
  | none => none
def fTup (fr : Fz (List Sv)) : Fz Sv := fun δ μ => (fr δ μ).bind fun as μ => match toDs as with
  | some ds => if ds.length ≤ 16777216 then okz (.tup ds) μ else none
  | none => none
/-- a list that will be changed -/
def fLstC (fr : Fz (List Sv)) : Fz Sv := fun δ μ => (fr δ μ).bind fun as μ => if as.length ≤ 16777216 then some (.ok (.c μ.length), μ ++ [.lst as]) else none
theorem z_lst (ha : PA X es (zA G W fr)) : PE X (.List es pos) (zE G W (fLst fr)) := peImp (pe_lst ha) fun σ H Q q => by
  obtain ⟨F, ρ, δ, μ, rr, w, s, e, p⟩ := q
  refine zstep w s e p fun sa μ1 x F1 ρ1 H1 g1 w1 s1 rx e1 p1 => ?_
  split at e1
  · rename_i ds hd
    split at e1
    · rename_i hl
      cases e1
      rw [of_toDs hd] at rx
      have r := RsL.toD rx
      refine ⟨by rw [r.len, szl]; exact hl, fun q hq => ?_⟩
      obtain ⟨w2, g2⟩ := w1.newD hq (.lst x)
      exact p1 _ _ _ _ g2 w2 (.d (.lst (SqL.of upd_same) (r.mono g2.f)))
    · cases e1
  · cases e1
theorem z_tup (ha : PA X es (zA G W fr)) {k} : PE X (.Tuple es k pos) (zE G W (fTup fr)) := peImp (pe_tup ha) fun σ H Q q => by
  obtain ⟨F, ρ, δ, μ, rr, w, s, e, p⟩ := q
  refine zstep w s e p fun sa μ1 x F1 ρ1 H1 g1 w1 s1 rx e1 p1 => ?_
  split at e1
  · rename_i ds hd
    split at e1
    · rename_i hl
      cases e1
      rw [of_toDs hd] at rx
      have r := RsL.toD rx
      refine ⟨by rw [r.len, szl]; exact hl, fun q hq => ?_⟩
      obtain ⟨w2, g2⟩ := w1.newD hq (.tup x)
      exact p1 _ _ _ _ g2 w2 (.d (.tup (SqT.of upd_same) (r.mono g2.f)))
    · cases e1
  · cases e1
theorem z_lstC (ha : PA X es (zA G W fr)) : PE X (.List es pos) (zE G W (fLstC fr)) := peImp (pe_lst ha) fun σ H Q q => by
  obtain ⟨F, ρ, δ, μ, rr, w, s, e, p⟩ := q
  refine zstep w s e p fun sa μ1 x F1 ρ1 H1 g1 w1 s1 rx e1 p1 => ?_
  split at e1
  · rename_i hl
    cases e1
    refine ⟨by rw [rx.len, szl]; exact hl, fun q hq => ?_⟩
    have g0 : Gr F1 F1 ρ1 (ρ1 ++ [q]) := ⟨Ex.refl F1, [q], rfl⟩
    obtain ⟨w2, g2⟩ := w1.newC hq (o := .lst x) (c := .lst sa) ⟨w1.ex.none hq, x, upd_same, rx.mono g0⟩
    exact p1 _ _ _ _ g2 w2 (.c (by rw [← w1.len]; simp))
  · cases e1
end
end Z
namespace Z
open PySem PySem.Spec PyProof.Rows L2
section
variable {G : Gx} {X : Cx} {W : WX} {F : Hp} {ρ : List Addr} {μ : Mu} {H : Hp} {a b e o : Expr} {es : List Expr} {fa fb fo : Fz Sv} {fr : Fz (List Sv)} {pos p2 p apos : Pos} {x : Str} {id T : String}
/-! ### calls of what is built in -/
def SOpn (G : Gx) (W : WX) (r : List V → Hp → VK → Prop) (o : Opn) : Prop := ∀ (F : Hp) (ρ : List Addr) (μ : Mu) (H : Hp) (σ : L2.St) (vs : List V) (as : List Sv) (rr : Except Exn Sv × Mu) (Q : VK),
  Wf G F ρ μ H → RsL G F ρ vs as → o as μ = some rr → Post G W σ F ρ (Rs G) Q rr → r vs H Q
theorem zopn {r : List V → Hp → VK → Prop} {o : Opn} (so : SOpn G W r o) {σ : L2.St} {H : Hp} {Q : VK} (q : zE G W (fOpn o fr) σ H Q) : tCB r (zA G W fr) σ H Q := by
  obtain ⟨F, ρ, δ, μ, rr, w, s, e, p⟩ := q
  refine zstep w s e p fun sa μ1 x F1 ρ1 H1 g1 w1 s1 rx e1 p1 => ?_
  exact so F1 ρ1 μ1 H1 σ x sa rr Q w1 rx e1 p1
theorem z_blt {r : List V → Hp → VK → Prop} {o : Opn} (hc : CallR X (.builtin id) r) (so : SOpn G W r o) (hg : Gl X x) (hm : X.mg x = none) (hv : bootBuiltins x = some (.builtin id)) (ha : PA X (e :: es) (zA G W fr)) (hn : x ≠ "__name__" := by decide) (hdb : (x == ("__debug__" : Str)) = false := by decide)
    (he : starEach (e :: es) X.env = (false, eval e X.env) :: starEach es X.env := by rfl) (hpl : (backTo pos (starEach es X.env)).any (·.1) = false := by rfl) : PE X (.Call (.Name x p) (e :: es) [] pos) (zE G W (fOpn o fr)) :=
  peImp (pe_callB hc hg hm hv ha hn hdb he hpl) fun _ _ _ q => zopn so q
theorem z_bty {r : List V → Hp → VK → Prop} {o : Opn} (hc : CallR X (.type T) r) (so : SOpn G W r o) (hg : Gl X x) (hm : X.mg x = none) (hv : bootBuiltins x = some (.type T)) (ha : PA X (e :: es) (zA G W fr)) (hn : x ≠ "__name__" := by decide) (hdb : (x == ("__debug__" : Str)) = false := by decide)
    (he : starEach (e :: es) X.env = (false, eval e X.env) :: starEach es X.env := by rfl) (hpl : (backTo pos (starEach es X.env)).any (·.1) = false := by rfl) : PE X (.Call (.Name x p) (e :: es) [] pos) (zE G W (fOpn o fr)) :=
  peImp (pe_callTy hc hg hm hv ha hn hdb he hpl) fun _ _ _ q => zopn so q
/-- len -/
def bLen : Opn := fun as μ => match as with
  | [.d (.str s)] => if s.length ≤ 16777216 then okz (.int s.length) μ else none
  | [.d (.tup l)] => okz (.int l.length) μ
  | [.d (.lst l)] => okz (.int l.length) μ
  | [.c n] => match μ[n]? with
    | some (.lst xs) => okz (.int xs.length) μ
    | some (.dct kvs) => okz (.int kvs.length) μ
    | _ => none
  | _ => none
def rLenZ (K : PySem.W.Frag) : List V → Hp → VK → Prop := fun xs H Q => ((∃ p ys, xs = [.ref p] ∧ (SqL K H p ys ∨ SqT K H p ys) ∧ Q (.int ys.length) H) ∨ (∃ z, xs = [.str z] ∧ z.length ≤ sizeLine ∧ Q (.int z.length) H)) ∨ (∃ d kvs, xs = [.ref d] ∧ H d = some (.dK kvs) ∧ Q (.int kvs.length) H)
theorem call_lenDz : CallR X (.builtin "len") (fun xs H Q => ∃ d kvs, xs = [.ref d] ∧ H d = some (.dK kvs) ∧ Q (.int kvs.length) H) := fun pins s σ H xs us Q I r h => by
  obtain ⟨d, kvs, rfl, hd, q⟩ := h
  exact call_lenD pins s σ H _ us Q I r ⟨d, kvs, rfl, hd, q⟩
theorem call_lenZ : CallR X (.builtin "len") (rLenZ X.K) := orC (orC call_len_seq call_len_str) call_lenDz
theorem RsK.len {vs : List (Key × V)} {xs : List (Key × Sv)} (r : RsK G F ρ vs xs) : vs.length = xs.length := by
  induction r with
  | nil => rfl
  | cons _ _ ih => simp [ih]
theorem so_len (hK : G.K = X.K) : SOpn G W (rLenZ X.K) bLen := by
  intro F ρ μ H σ vs as rr Q w r h p
  unfold bLen at h
  split at h
  · split at h
    · rename_i hl
      cases h
      cases r with | cons r t => cases t; cases r with | d r => cases r with | str y => exact .inl (.inr ⟨y, rfl, by rw [lenS, szl]; exact hl, by rw [lenS]; exact p.ok w (.d (.int _))⟩)
    · cases h
  · cases h
    cases r with
    | cons r t =>
      cases t
      cases r with
      | d r => cases r with
        | tup h1 h2 => exact .inl (.inl ⟨_, _, rfl, .inr (by rw [← hK]; exact w.ex.t h1), by rw [h2.len]; exact p.ok w (.d (.int _))⟩)
  · cases h
    cases r with
    | cons r t =>
      cases t
      cases r with
      | d r => cases r with
        | lst h1 h2 => exact .inl (.inl ⟨_, _, rfl, .inl (by rw [← hK]; exact w.ex.l h1), by rw [h2.len]; exact p.ok w (.d (.int _))⟩)
  · cases r with
    | cons r t =>
      cases t
      cases r with
      | c hr =>
        split at h
        · rename_i xs hx
          cases h
          obtain ⟨_, ws, h1, h2⟩ := w.cell _ _ _ hr hx
          exact .inl (.inl ⟨_, _, rfl, .inl (.inl (.inl h1)), by rw [h2.len]; exact p.ok w (.d (.int _))⟩)
        · rename_i xs hx
          cases h
          obtain ⟨_, ws, h1, h2⟩ := w.cell _ _ _ hr hx
          exact .inr ⟨_, _, rfl, h1, by rw [h2.len]; exact p.ok w (.d (.int _))⟩
        · cases h
  · cases h
/-- max, min of two -/
def bMax2 : Opn := fun as μ => match as with
  | [.d (.int i), .d (.int j)] => okz (.int (if j > i then j else i)) μ
  | _ => none
def bMin2 : Opn := fun as μ => match as with
  | [.d (.int i), .d (.int j)] => okz (.int (if j < i then j else i)) μ
  | _ => none
theorem so_max2 : SOpn G W (fun xs H Q => ∃ i j, xs = [.int i, .int j] ∧ Q (.int (if j > i then j else i)) H) bMax2 := by
  intro F ρ μ H σ vs as rr Q w r h p
  unfold bMax2 at h
  split at h
  · cases h; cases r with | cons r t => cases t with | cons r2 t => cases t; cases r with | d r => cases r; cases r2 with | d r2 => cases r2; exact ⟨_, _, rfl, p.ok w (.d (.int _))⟩
  · cases h
theorem so_min2 : SOpn G W (fun xs H Q => ∃ i j, xs = [.int i, .int j] ∧ Q (.int (if j < i then j else i)) H) bMin2 := by
  intro F ρ μ H σ vs as rr Q w r h p
  unfold bMin2 at h
  split at h
  · cases h; cases r with | cons r t => cases t with | cons r2 t => cases t; cases r with | d r => cases r; cases r2 with | d r2 => cases r2; exact ⟨_, _, rfl, p.ok w (.d (.int _))⟩
  · cases h
/-- int of a number or a truth -/
def bInt : Opn := fun as μ => match as with
  | [.d (.int i)] => okz (.int i) μ
  | [.d (.bl k)] => okz (.int (if k then 1 else 0)) μ
  | _ => none
theorem so_int : SOpn G W (fun xs H Q => (∃ i, xs = [.int i] ∧ Q (.int i) H) ∨ ∃ k, xs = [.bl k] ∧ Q (.int (if k then 1 else 0)) H) bInt := by
  intro F ρ μ H σ vs as rr Q w r h p
  unfold bInt at h
  split at h
  · cases h; cases r with | cons r t => cases t; cases r with | d r => cases r; exact .inl ⟨_, rfl, p.ok w (.d (.int _))⟩
  · cases h; cases r with | cons r t => cases t; cases r with | d r => cases r; exact .inr ⟨_, rfl, p.ok w (.d (.int _))⟩
  · cases h
/-- list(x), tuple(x) of a list or a tuple -/
def seqV (μ : Mu) : Sv → Option (List Sv)
  | .d (.tup l) => some (l.map Sv.d)
  | v => lstV μ v
def bList : Opn := fun as μ => match as with
  | [a] => match seqV μ a with
    | some xs => match toDs xs with
      | some ds => okz (.lst ds) μ
      | none => none
    | none => none
  | _ => none
/-- a list that will be changed -/
def bListC : Opn := fun as μ => match as with
  | [a] => match seqV μ a with
    | some xs => some (.ok (.c μ.length), μ ++ [.lst xs])
    | none => none
  | _ => none
theorem seqV_at (hK : G.K = X.K) {v : V} {sv : Sv} {xs : List Sv} (w : Wf G F ρ μ H) (r : Rs G F ρ v sv) (h : seqV μ sv = some xs) : ∃ a vs, v = .ref a ∧ (SqL X.K H a vs ∨ SqT X.K H a vs) ∧ RsL G F ρ vs xs := by
  unfold seqV at h
  split at h
  · cases h
    cases r with
    | d r => cases r with
      | tup h1 h2 => exact ⟨_, _, rfl, .inr (by rw [← hK]; exact w.ex.t h1), RsL.ofD h2⟩
  · obtain ⟨ax, vs, h1, h2, h3⟩ := lstV_at w r h
    exact ⟨ax, vs, h1, .inl (by rw [← hK]; exact h2), h3⟩
theorem so_list (hK : G.K = X.K) : SOpn G W (fun xs H Q => ∃ p ys, xs = [.ref p] ∧ (SqL X.K H p ys ∨ SqT X.K H p ys) ∧ ∀ l, H l = none → Q (.ref l) (upd H l (.lst ys))) bList := by
  intro F ρ μ H σ vs as rr Q w r h p
  unfold bList at h
  split at h
  · split at h
    · rename_i xs hx
      split at h
      · rename_i ds hd
        cases h
        cases r with
        | cons r t =>
          cases t
          obtain ⟨ax, vs, rfl, h2, h3⟩ := seqV_at hK w r hx
          refine ⟨_, _, rfl, h2, fun q hq => ?_⟩
          obtain ⟨w2, g2⟩ := w.newD hq (.lst vs)
          rw [of_toDs hd] at h3
          exact p _ _ _ _ g2 w2 (.d (.lst (SqL.of upd_same) ((RsL.toD h3).mono g2.f)))
      · cases h
    · cases h
  · cases h
theorem so_listC (hK : G.K = X.K) : SOpn G W (fun xs H Q => ∃ p ys, xs = [.ref p] ∧ (SqL X.K H p ys ∨ SqT X.K H p ys) ∧ ∀ l, H l = none → Q (.ref l) (upd H l (.lst ys))) bListC := by
  intro F ρ μ H σ vs as rr Q w r h p
  unfold bListC at h
  split at h
  · split at h
    · rename_i xs hx
      cases h
      cases r with
      | cons r t =>
        cases t
        obtain ⟨ax, vs, rfl, h2, h3⟩ := seqV_at hK w r hx
        refine ⟨_, _, rfl, h2, fun q hq => ?_⟩
        have g0 : Gr F F ρ (ρ ++ [q]) := ⟨Ex.refl F, [q], rfl⟩
        obtain ⟨w2, g2⟩ := w.newC hq (o := .lst vs) (c := .lst xs) ⟨w.ex.none hq, vs, upd_same, h3.mono g0⟩
        exact p _ _ _ _ g2 w2 (.c (by rw [← w.len]; simp))
    · cases h
  · cases h
def bTuple : Opn := fun as μ => match as with
  | [.d (.tup l)] => okz (.tup l) μ
  | [a] => match lstV μ a with
    | some xs => match toDs xs with
      | some ds => okz (.tup ds) μ
      | none => none
    | none => none
  | _ => none
theorem so_tuple (hK : G.K = X.K) : SOpn G W (fun xs H Q => ∃ p ys, xs = [.ref p] ∧ ((SqL X.K H p ys ∧ ∀ l, H l = none → Q (.ref l) (upd H l (.tup ys))) ∨ (SqT X.K H p ys ∧ Q (.ref p) H))) bTuple := by
  intro F ρ μ H σ vs as rr Q w r h p
  unfold bTuple at h
  split at h
  · cases h
    cases r with
    | cons r t =>
      cases t
      cases r with
      | d r =>
        have r0 := r
        cases r with
        | tup h1 h2 => exact ⟨_, _, rfl, .inr ⟨by rw [← hK]; exact w.ex.t h1, p.ok w (.d r0)⟩⟩
  · split at h
    · rename_i xs hx
      split at h
      · rename_i ds hd
        cases h
        cases r with
        | cons r t =>
          cases t
          obtain ⟨ax, vs, rfl, h2, h3⟩ := lstV_at w r hx
          refine ⟨_, _, rfl, .inl ⟨by rw [← hK]; exact h2, fun q hq => ?_⟩⟩
          obtain ⟨w2, g2⟩ := w.newD hq (.tup vs)
          rw [of_toDs hd] at h3
          exact p _ _ _ _ g2 w2 (.d (.tup (SqT.of upd_same) ((RsL.toD h3).mono g2.f)))
      · cases h
    · cases h
  · cases h

/-! ### isinstance -/
inductive Tg where
  | b (n : String) | o (c : String) | x (c : String)
def tgOf (μ : Mu) : Sv → Option Tg
  | .d .non => some (.b "NoneType")
  | .d (.bl _) => some (.b "bool")
  | .d (.int _) => some (.b "int")
  | .d (.str _) => some (.b "str")
  | .d (.lst _) => some (.b "list")
  | .d (.tup _) => some (.b "tuple")
  | .d (.ins c _) => some (.o c)
  | .d (.exc c _) => some (.x c)
  | .c n => match μ[n]? with
    | some (.lst _) => some (.b "list")
    | some (.dct _) => some (.b "dict")
    | some (.ins c _) => some (.o c)
    | _ => none
def tgV (G : Gx) : Tg → Value
  | .b n => .type n
  | .o c => .ref (G.cls c)
  | .x c => .ref (G.cls c)
/-- what is asked of an own class for isinstance -/
structure InsZ (K : PySem.W.Frag) (C : Addr) : Prop where
  ok : ∀ (H : Hp) (a dx : Addr) (fs : List (Str × V)), H a = some (.ins C dx fs) → TyOf K H (.ref a) (.ref C)
def fIsi (tab : Tg → Option Bool) (fa : Fz Sv) : Fz Sv := fun δ μ => (fa δ μ).bind fun a μ => match tgOf μ a with
  | some t => match tab t with
    | some k => okz (.bl k) μ
    | none => none
  | none => none
theorem rd_lst {l : Addr} {xs : List V} {K : PySem.W.Frag} (h : SqL K H l xs) : TyX K H (.ref l) (.type "list") := by
  rcases h with (h | ⟨o, h⟩) | ⟨o, its, n, h1, h2, _⟩
  · exact .base (.lst h)
  · exact .base (.frz h)
  · exact .kList h1 h2
theorem sqT_ty {l : Addr} {xs : List V} {K : PySem.W.Frag} (h : SqT K H l xs) : TyX K H (.ref l) (.type "tuple") := by
  rcases h with (h | ⟨o, h⟩) | ⟨o, its, n, h1, h2, _⟩
  · exact .base (.tup h)
  · exact .fTuple h
  · exact .kTuple h1 h2
theorem tg_at (hK : G.K = X.K) {v : V} {sv : Sv} {t : Tg} (w : Wf G F ρ μ H) (r : Rs G F ρ v sv) (h : tgOf μ sv = some t) (ho : ∀ c, t = .o c → InsZ X.K (G.cls c)) (hxx : ∀ c, t ≠ .x c) : TyX X.K H v (tgV G t) := by
  cases r with
  | d r =>
    cases r with
    | non => cases h; exact .base .non
    | bl b => cases h; exact .base (.bl b)
    | int i => cases h; exact .base (.int i)
    | str y => cases h; exact .base (.str y)
    | lst h1 h2 => cases h; exact rd_lst (by rw [← hK]; exact w.ex.l h1)
    | tup h1 h2 => cases h; exact sqT_ty (by rw [← hK]; exact w.ex.t h1)
    | ins h1 h2 => cases h; exact .base ((ho _ rfl).ok _ _ _ _ (w.ex _ _ h1))
    | exc0 h1 => cases h; exact absurd rfl (hxx _)
    | excD h1 h2 h3 => cases h; exact absurd rfl (hxx _)
  | c hr =>
    unfold tgOf at h
    simp only at h
    split at h
    · rename_i xs hx
      cases h
      obtain ⟨_, ws, h1, h2⟩ := w.cell _ _ _ hr hx
      exact .base (.lst h1)
    · rename_i xs hx
      cases h
      obtain ⟨_, ws, h1, h2⟩ := w.cell _ _ _ hr hx
      exact .base (.dK h1)
    · rename_i c xs hx
      cases h
      obtain ⟨_, dx, ws, h1, h2⟩ := w.cell _ _ _ hr hx
      exact .base ((ho _ rfl).ok _ _ _ _ h1)
    · cases h
def tIsi (K : PySem.W.Frag) (c : V) (te : TE) : TE := tCB (rIsi K) (tCons te (tCons (tC c) tNil))
theorem z_isi (hK : G.K = X.K) {c : V} {cv : Value} {f : Tg → Option Bool} (hcv : ClsV c cv) (hk : ∀ t k, f t = some k → PySem.W.kitOne X.K (tgV G t) cv = some k) (ho : ∀ c k, f (.o c) = some k → InsZ X.K (G.cls c)) (hnx : ∀ c, f (.x c) = none)
    (hg : Gl X "isinstance") (hm : X.mg "isinstance" = none) (ha : PE X a (zE G W fa)) (hb : PE X b (tC c))
    (hs1 : starEach [a, b] X.env = (false, eval a X.env) :: starEach [b] X.env := by rfl) (hs2 : starEach [b] X.env = (false, eval b X.env) :: starEach [] X.env := by rfl) (hpl : (backTo pos (starEach [b] X.env)).any (·.1) = false := by rfl) :
    PE X (.Call (.Name "isinstance" p) [a, b] [] pos) (zE G W (fIsi f fa)) :=
  peImp (pe_callB call_isi hg hm (by decide +kernel) (pa_cons ha (pa_cons hb pa_nil hs2) hs1) (by decide) (by decide) hs1 hpl) fun σ H Q q => by
  obtain ⟨F, ρ, δ, μ, rr, w, s, e, p⟩ := q
  refine zstep w s e p fun sa μ1 x F1 ρ1 H1 g1 w1 s1 rx e1 p1 => ?_
  split at e1
  · rename_i t ht
    split at e1
    · rename_i k hk'
      cases e1
      refine ⟨x, c, tgV G t, cv, k, rfl, hcv, tg_at hK w1 rx ht (fun c' e' => ho c' k (by rw [← e']; exact hk')) (fun c' e' => by rw [e', hnx] at hk'; cases hk'), hk t k hk', p1.ok w1 (.d (.bl k))⟩
    · cases e1
  · cases e1
/-- the answer for a built-in type -/
def isT (T tn : String) : Bool := tn == T || (T == "int" && tn == "bool")
def seven : List String := ["NoneType", "bool", "int", "str", "list", "tuple", "dict"]
def isB (T : String) : Tg → Option Bool
  | .b n => if n ∈ seven then some (isT T n) else none
  | .o _ => none
  | .x _ => none
theorem isB_ok {T : String} (h : seven.all (fun n => decide (kitB n T = some (isT T n))) = true) : ∀ t k, isB T t = some k → PySem.W.kitOne X.K (tgV G t) (.type T) = some k := by
  intro t k e
  cases t with
  | b n =>
    unfold isB at e
    simp only at e
    split at e
    · rename_i hn
      cases e
      exact kit_ty (of_decide_eq_true (List.all_eq_true.mp h n hn))
    · cases e
  | o c => cases e
  | x c => cases e
theorem isB_int : seven.all (fun n => decide (kitB n "int" = some (isT "int" n))) = true := by decide +kernel
theorem isB_bool : seven.all (fun n => decide (kitB n "bool" = some (isT "bool" n))) = true := by decide +kernel
theorem isB_str : seven.all (fun n => decide (kitB n "str" = some (isT "str" n))) = true := by decide +kernel
theorem isB_list : seven.all (fun n => decide (kitB n "list" = some (isT "list" n))) = true := by decide +kernel
theorem isB_tuple : seven.all (fun n => decide (kitB n "tuple" = some (isT "tuple" n))) = true := by decide +kernel
theorem isB_o {T c : String} {k : Bool} (h : isB T (.o c) = some k) : False := by cases h

/-! ### text[::-1], list[::-1] -/
def fRev (fa : Fz Sv) : Fz Sv := fun δ μ => (fa δ μ).bind fun a μ => match a with
  | .d (.str s) => if s.length ≤ 16777216 then okz (.str s.reverse) μ else none
  | a => match lstV μ a with
    | some xs => match toDs xs with
      | some ds => okz (.lst ds.reverse) μ
      | none => none
    | none => none
def tRevS (te : TE) : TE := fun σ H Q => te σ H fun x H1 => ∃ z : Str, x = .str z ∧ z.length ≤ sizeLine ∧ Q (.str ⟨z.cps.toList.reverse.toArray⟩) H1
theorem fm_map {α β : Type} {f : α → Option β} {g : α → β} : ∀ {l : List α}, (∀ k ∈ l, f k = some (g k)) → l.filterMap f = l.map g
  | [], _ => rfl
  | x :: r, h => by
    rw [List.filterMap_cons, h x List.mem_cons_self, List.map_cons, fm_map fun k hk => h k (List.mem_cons_of_mem _ hk)]
theorem revS_picked (z : Str) (t : Tok) : ((PySem.slicePicked z none none (some (-1, t))).filterMap (z.cps[·]?)) = z.cps.toList.reverse := by
  have h0 : PySem.slicePicked z none none (some (-1, t)) = sliceRange ((z.length : Int) - 1) (-1) (-1) := by
    unfold PySem.slicePicked Builtin.Str.strSliceIndices
    simp
  rw [h0, PySem.W.krv_sliceRange, List.filterMap_map]
  have hn : z.length = z.cps.size := rfl
  rw [hn]
  apply List.ext_getElem?
  intro j
  by_cases hj : j < z.cps.size
  · have e1 : ∀ k ∈ List.range z.cps.size, ((fun x => z.cps[x]?) ∘ fun k => z.cps.size - 1 - k) k = some (z.cps.toList.reverse.getD k 0) := by
      intro k hk
      have hk' := List.mem_range.mp hk
      simp only [Function.comp]
      rw [List.getD_eq_getElem?_getD, List.getElem?_reverse (by simpa using hk')]
      rw [Array.getElem?_eq_getElem (by omega), Array.length_toList, List.getElem?_eq_getElem (by simp; omega)]
      simp
    rw [show List.filterMap ((fun x => z.cps[x]?) ∘ fun k => z.cps.size - 1 - k) (List.range z.cps.size) = (List.range z.cps.size).map (fun k => z.cps.toList.reverse.getD k 0) from by
      exact fm_map e1]
    rw [List.getElem?_map, List.getElem?_range hj]
    simp only [Option.map_some]
    rw [List.getD_eq_getElem?_getD, List.getElem?_eq_getElem (by simpa using hj)]
    simp
  · have l1 : (List.filterMap ((fun x => z.cps[x]?) ∘ fun k => z.cps.size - 1 - k) (List.range z.cps.size)).length ≤ z.cps.size := by
      refine Nat.le_trans (List.length_filterMap_le _ _) ?_
      simp
    rw [List.getElem?_eq_none (by omega), List.getElem?_eq_none (by simp; omega)]
theorem pe_revS {te : TE} {k : Nat} {p1 p3 : Pos} (he : PE X e te) : PE X (.Subscript e (.Slice none none (some (.UnaryOp .USub (.Constant (.int 1) k p1) p2)) p3) pos) (tRevS te) := ⟨fun pins s σ H Q I h => by
  have minus : PO X (some (.UnaryOp .USub (.Constant (.int 1) k p1) p2)) (tPart (tUn (rU fun i => .int (-i)) (tC (.int 1)))) := po_some (pe_un un_neg pe_int)
  refine Subscript_ (thn (he.run pins s σ H _ I h) fun v s1 ⟨x, H1, I1, r1, z, ex, hz, q⟩ => ?_)
  subst ex
  obtain ⟨tk, rfl⟩ := r1
  refine wpAny_Slice (thn (po_none.run pins s1 σ H1 (fun o J => o = none ∧ J = H1) I1 ⟨rfl, rfl⟩) fun vl s2 ⟨l, H2, I2, pl, el, e2⟩ => ?_)
  subst el e2
  refine thn (po_none.run pins s2 σ H2 (fun o J => o = none ∧ J = H2) I2 ⟨rfl, rfl⟩) fun vu s3 ⟨u, H3, I3, pu, eu, e3⟩ => ?_
  subst eu e3
  refine thn (minus.run pins s3 σ H3 (fun o J => o = some (-1) ∧ J = H3) I3 ⟨1, rfl, -1, rfl, rfl, rfl⟩) fun vs s4 ⟨o, H4, I4, pst, eo, e4⟩ => ?_
  subst eo e4
  obtain ⟨l0, hl0, hl1⟩ := IsPart.raw pl
  obtain ⟨u0, hu0, hu1⟩ := IsPart.raw pu
  obtain ⟨st, hst0, hst1⟩ := IsPart.raw pst
  cases l0 with
  | some _ => cases hl1
  | none =>
  cases u0 with
  | some _ => cases hu1
  | none =>
  cases st with
  | none => cases hst1
  | some st =>
  obtain ⟨sv, stk⟩ := st
  have e5 : sv = -1 := by simpa using hst1
  subst e5
  subst hl0 hu0 hst0
  have I5 : Inv X pins σ H4 { s4 with heap := s4.heap.push { cls := .type "slice", data := .fields #[partValue none, partValue none, partValue (some (-1, stk))] } } := I4.kept (t' := s4.toks) fun b ob q => Heap.get?_push_of_some _ q
  refine tail_any (ops := [.str z tk, .ref s4.heap.objs.size]) (typeIs_str _ z tk) slot_str_getitem.lookup ?_ (by with_unfolding_all rfl)
  refine PySem.wpAny_getItem_str_slice (l := none) (u := none) (st := some (-1, stk)) (Heap.IsSliceOf.new ..) rfl ?_
  have made : PySem.sliceMade z tk none none (some (-1, stk)) = Made.str ⟨z.cps.toList.reverse.toArray⟩ := by
    unfold PySem.sliceMade
    rw [revS_picked]
    simp
  rw [made]
  refine ⟨?_, .str _, H4, I5.tok _, ⟨_, rfl⟩, q⟩
  show (z.cps.toList.reverse.toArray).size ≤ sizeLine
  rw [lenS] at hz
  simpa using hz⟩
theorem z_rev (hK : G.K = X.K) {k : Nat} {p1 p3 : Pos} (ha : PE X a (zE G W fa)) : PE X (.Subscript a (.Slice none none (some (.UnaryOp .USub (.Constant (.int 1) k p1) p2)) p3) pos) (zE G W (fRev fa)) :=
  peImp (peOr (pe_revL ha) (pe_revS ha)) fun σ H Q q => by
  obtain ⟨F, ρ, δ, μ, rr, w, s, e, p⟩ := q
  unfold fRev at e
  cases h : fa δ μ with
  | none => rw [h] at e; cases e
  | some q =>
    obtain ⟨v, μ1⟩ := q
    rw [h] at e
    cases v with
    | error x => cases e; exact .inl ⟨F, ρ, δ, μ, _, w, s, h, p⟩
    | ok v =>
      rw [Rz.bind_ok] at e
      split at e
      · split at e
        · rename_i hl
          cases e
          refine .inr ⟨F, ρ, δ, μ, _, w, s, h, fun x F1 ρ1 H1 g1 w1 r1 => ?_⟩
          cases r1 with
          | d r1 =>
            cases r1 with
            | str z => exact ⟨z, rfl, by rw [lenS, szl]; exact hl, p _ _ _ _ g1 w1 (.d (rpS rfl))⟩
        · cases e
      · split at e
        · rename_i xs hx
          split at e
          · rename_i ds hd
            cases e
            refine .inl ⟨F, ρ, δ, μ, _, w, s, h, fun x F1 ρ1 H1 g1 w1 r1 => ?_⟩
            obtain ⟨ax, vs, rfl, h2, h3⟩ := lstV_at w1 r1 hx
            refine ⟨_, _, rfl, by rw [← hK]; exact h2, fun q hq => ?_⟩
            obtain ⟨w2, g2⟩ := w1.newD hq (.lst vs.reverse)
            rw [of_toDs hd] at h3
            have h4 := h3.rev
            rw [← List.map_reverse] at h4
            exact p _ _ _ _ (g1.trans g2) w2 (.d (.lst (SqL.of upd_same) ((RsL.toD h4).mono g2.f)))
          · cases e
        · cases e
end
end Z
namespace Z
open PySem PySem.Spec PyProof.Rows L2
section
variable {G : Gx} {X : Cx} {W : WX} {F : Hp} {ρ : List Addr} {μ : Mu} {H : Hp} {a b e o tg : Expr} {es : List Expr} {fa fb fo : Fz Sv} {fr : Fz (List Sv)} {pos p2 p apos : Pos} {x : Str} {id T : String}
/-! ### what a for walks -/
def fSeq (fa : Fz Sv) : Fz (List Sv) := fun δ μ => (fa δ μ).bind fun a μ => match a with
  | .d (.lst l) => some (.ok (l.map Sv.d), μ)
  | .d (.tup l) => some (.ok (l.map Sv.d), μ)
  | .d (.str s) => some (.ok (s.map fun c => .d (.str [c])), μ)
  | _ => none
theorem wk_lst {l : Addr} {vs : List V} {ds : List D} (h1 : SqL G.K F l vs) (h2 : RpL G F vs ds) : WalkOk G F ρ (Itl G.K l) (ds.map Sv.d) := by
  intro F' ρ' μ' H' g w i
  have r1 := w.ex.l (g.f.l h1)
  have r2 := h2.mono g.f
  have hl := h2.len
  refine ⟨fun hi => ⟨vs, r1, by rw [hl]; simpa using hi⟩, fun y hy => ?_⟩
  obtain ⟨u, hu, ru⟩ := RsL.get (RsL.ofD (ρ := ρ') r2) hy
  refine ⟨⟨vs, u, r1, hu⟩, fun x H'' ⟨e1, hx⟩ => ?_⟩
  subst e1
  have := hx vs r1
  rw [hu] at this; cases this
  exact ⟨F', ρ', Gr.refl _ _, w, ru⟩
theorem wk_tup {l : Addr} {vs : List V} {ds : List D} (h1 : SqT G.K F l vs) (h2 : RpL G F vs ds) : WalkOk G F ρ (Itt G.K l) (ds.map Sv.d) := by
  intro F' ρ' μ' H' g w i
  have r1 := w.ex.t (g.f.t h1)
  have r2 := h2.mono g.f
  have hl := h2.len
  refine ⟨fun hi => ⟨vs, r1, by rw [hl]; simpa using hi⟩, fun y hy => ?_⟩
  obtain ⟨u, hu, ru⟩ := RsL.get (RsL.ofD (ρ := ρ') r2) hy
  refine ⟨⟨vs, u, r1, hu⟩, fun x H'' ⟨e1, hx⟩ => ?_⟩
  subst e1
  have := hx vs r1
  rw [hu] at this; cases this
  exact ⟨F', ρ', Gr.refl _ _, w, ru⟩
theorem wk_str (z : Str) : WalkOk G F ρ (Its z) (z.cps.toList.map fun c => Sv.d (.str [c])) := by
  intro F' ρ' μ' H' g w i
  refine ⟨fun hi => ?_, fun y hy => ?_⟩
  · show z.cps.size ≤ i
    simpa using hi
  · rw [List.getElem?_map] at hy
    cases hc : z.cps.toList[i]? with
    | none => rw [hc] at hy; cases hy
    | some c =>
      rw [hc] at hy
      have hy' : Sv.d (.str [c]) = y := Option.some.inj hy
      subst hy'
      have hi : i < z.cps.size := by simpa using (List.getElem?_eq_some_iff.mp hc).1
      refine ⟨hi, fun v H'' ⟨e1, c', hc', ev⟩ => ?_⟩
      subst e1 ev
      have : c' = c := by
        rw [← Array.getElem?_toList, hc] at hc'
        exact (Option.some.inj hc').symm
      subst this
      exact ⟨F', ρ', Gr.refl _ _, w, .d (rpS rfl)⟩
theorem zi_seq (hK : G.K = X.K) (ha : PE X a (zE G W fa)) : PI X tg a (zI G W (fSeq fa)) := piImp (piOr (pi_list ha) (piOr (pi_tup ha) (pi_str ha))) fun σ H R q => by
  obtain ⟨F, ρ, δ, μ, rr, w, s, e, p⟩ := q
  unfold fSeq at e
  cases h : fa δ μ with
  | none => rw [h] at e; cases e
  | some q =>
    obtain ⟨v, μ1⟩ := q
    rw [h] at e
    cases v with
    | error x => cases e; exact .inl ⟨F, ρ, δ, μ, _, w, s, h, p⟩
    | ok v =>
      rw [Rz.bind_ok] at e
      split at e
      · cases e
        refine .inl ⟨F, ρ, δ, μ, _, w, s, h, fun x F1 ρ1 H1 g1 w1 r1 => ?_⟩
        cases r1 with
        | d r1 => cases r1 with
          | lst h1 h2 => exact ⟨_, rfl, ⟨_, by rw [← hK]; exact w1.ex.l h1⟩, by rw [← hK]; exact p _ _ _ _ g1 w1 (wk_lst h1 h2)⟩
      · cases e
        refine .inr (.inl ⟨F, ρ, δ, μ, _, w, s, h, fun x F1 ρ1 H1 g1 w1 r1 => ?_⟩)
        cases r1 with
        | d r1 => cases r1 with
          | tup h1 h2 => exact ⟨_, rfl, ⟨_, by rw [← hK]; exact w1.ex.t h1⟩, by rw [← hK]; exact p _ _ _ _ g1 w1 (wk_tup h1 h2)⟩
      · cases e
        refine .inr (.inr ⟨F, ρ, δ, μ, _, w, s, h, fun x F1 ρ1 H1 g1 w1 r1 => ?_⟩)
        cases r1 with
        | d r1 => cases r1 with
          | str z => exact ⟨z, rfl, p _ _ _ _ g1 w1 (wk_str z)⟩
      · cases e
/-- range -/
def rngI (lo : Int) (n : Nat) : List Sv := (List.range n).map fun i => .d (.int (lo + (i : Nat)))
def fRng1 (fr : Fz (List Sv)) : Fz (List Sv) := fun δ μ => (fr δ μ).bind fun as μ => match as with
  | [.d (.int j)] => if -(2 ^ 62) ≤ j ∧ j < 2 ^ 62 then some (.ok (rngI 0 j.toNat), μ) else none
  | _ => none
def fRng2 (fr : Fz (List Sv)) : Fz (List Sv) := fun δ μ => (fr δ μ).bind fun as μ => match as with
  | [.d (.int i), .d (.int j)] => if -(2 ^ 62) ≤ i ∧ i < 2 ^ 62 ∧ -(2 ^ 62) ≤ j ∧ j < 2 ^ 62 then some (.ok (rngI i (j - i).toNat), μ) else none
  | _ => none
theorem wk_rng (lo : Int) (n : Nat) : WalkOk G F ρ (Itr lo n) (rngI lo n) := by
  intro F' ρ' μ' H' g w i
  refine ⟨fun hi => ?_, fun y hy => ?_⟩
  · show n ≤ i
    simpa [rngI] using hi
  · unfold rngI at hy
    rw [List.getElem?_map] at hy
    by_cases hi : i < n
    · rw [List.getElem?_range hi] at hy
      have hy' : Sv.d (.int (lo + (i : Nat))) = y := Option.some.inj hy
      subst hy'
      refine ⟨hi, fun v H'' ⟨e1, ev⟩ => ?_⟩
      subst e1 ev
      exact ⟨F', ρ', Gr.refl _ _, w, .d (.int _)⟩
    · rw [List.getElem?_eq_none (by simpa using hi)] at hy; cases hy
theorem zi_rng1 (hg : Gl X "range") (hm : X.mg "range" = none) (ha : PA X [a] (zA G W fr)) (hs : starEach [a] X.env = [(false, eval a X.env)] := by rfl) : PI X tg (.Call (.Name "range" p) [a] [] pos) (zI G W (fRng1 fr)) := piImp (pi_range1 hg hm ha hs) fun σ H R q => by
  obtain ⟨F, ρ, δ, μ, rr, w, s, e, p⟩ := q
  refine zstep w s e p fun sa μ1 x F1 ρ1 H1 g1 w1 s1 rx e1 p1 => ?_
  split at e1
  · split at e1
    · rename_i hb
      cases e1
      cases rx with | cons r t => cases t; cases r with | d r => cases r; exact ⟨_, rfl, hb.1, hb.2, p1.ok w1 (wk_rng 0 _)⟩
    · cases e1
  · cases e1
theorem zi_rng2 (hg : Gl X "range") (hm : X.mg "range" = none) (ha : PA X [a, b] (zA G W fr)) (hs : starEach [a, b] X.env = [(false, eval a X.env), (false, eval b X.env)] := by rfl) (hs2 : starEach [b] X.env = [(false, eval b X.env)] := by rfl) :
    PI X tg (.Call (.Name "range" p) [a, b] [] pos) (zI G W (fRng2 fr)) := piImp (pi_range2 hg hm ha hs hs2) fun σ H R q => by
  obtain ⟨F, ρ, δ, μ, rr, w, s, e, p⟩ := q
  refine zstep w s e p fun sa μ1 x F1 ρ1 H1 g1 w1 s1 rx e1 p1 => ?_
  split at e1
  · split at e1
    · rename_i hb
      cases e1
      cases rx with | cons r t => cases t with | cons r2 t => cases t; cases r with | d r => cases r; cases r2 with | d r2 => cases r2; exact ⟨_, _, rfl, hb, p1.ok w1 (wk_rng _ _)⟩
    · cases e1
  · cases e1
/-- enumerate of a list -/
def enI : Nat → List D → List Sv
  | _, [] => []
  | k, x :: r => .d (.tup [.int (k : Nat), x]) :: enI (k + 1) r
theorem enI_get : ∀ (l : List D) (k i : Nat), (enI k l)[i]? = (l[i]?).map fun x => Sv.d (.tup [.int ((k + i : Nat) : Int), x])
  | [], k, i => by simp [enI]
  | x :: r, k, 0 => by simp [enI]
  | x :: r, k, i + 1 => by
    have := enI_get r (k + 1) i
    simp only [enI, List.getElem?_cons_succ, this]
    rw [show k + 1 + i = k + (i + 1) by omega]
theorem enI_len : ∀ (l : List D) (k : Nat), (enI k l).length = l.length
  | [], _ => rfl
  | _ :: r, k => by simp [enI, enI_len r]
def fEnum (fr : Fz (List Sv)) : Fz (List Sv) := fun δ μ => (fr δ μ).bind fun as μ => match as with
  | [.d (.lst l)] => some (.ok (enI 0 l), μ)
  | _ => none
theorem wk_enum {l : Addr} {vs : List V} {ds : List D} (h1 : SqL G.K F l vs) (h2 : RpL G F vs ds) : WalkOk G F ρ (Ite G.K l) (enI 0 ds) := by
  intro F' ρ' μ' H' g w i
  have r1 := w.ex.l (g.f.l h1)
  have r2 := h2.mono g.f
  have hl := h2.len
  refine ⟨fun hi => ⟨vs, r1, by rw [hl]; rw [enI_len] at hi; exact hi⟩, fun y hy => ?_⟩
  rw [enI_get] at hy
  cases hd : ds[i]? with
  | none => rw [hd] at hy; cases hy
  | some d =>
    rw [hd] at hy
    have hy' : Sv.d (.tup [.int ((0 + i : Nat) : Int), d]) = y := Option.some.inj hy
    subst hy'
    obtain ⟨u, hu, ru⟩ := RsL.get (RsL.ofD (ρ := ρ') r2) (show (ds.map Sv.d)[i]? = some (.d d) by rw [List.getElem?_map, hd]; rfl)
    refine ⟨⟨vs, u, r1, hu⟩, fun x H'' ⟨T, z, ev, hT, eH, hx⟩ => ?_⟩
    have e1 := hx vs r1
    rw [hu] at e1; cases e1
    subst ev eH
    obtain ⟨w2, g2⟩ := w.newD hT (.tup [.int (i : Nat), u])
    refine ⟨_, ρ', g2, w2, .d (.tup (SqT.of upd_same) ?_)⟩
    cases ru with
    | d ru =>
      rw [Nat.zero_add]
      exact .cons (.int _) (.cons (ru.mono g2.f) .nil)
theorem zi_enum (hK : G.K = X.K) {elts : List Expr} {kk : Nat} {tpos : Pos} (hg : Gl X "enumerate") (hm : X.mg "enumerate" = none) (ha : PA X [a] (zA G W fr)) (hs : starEach [a] X.env = [(false, eval a X.env)] := by rfl) :
    PI X (.Tuple elts kk tpos) (.Call (.Name "enumerate" p) [a] [] pos) (zI G W (fEnum fr)) := piImp (pi_enum hg hm ha hs) fun σ H R q => by
  obtain ⟨F, ρ, δ, μ, rr, w, s, e, p⟩ := q
  refine zstep w s e p fun sa μ1 x F1 ρ1 H1 g1 w1 s1 rx e1 p1 => ?_
  split at e1
  · cases e1
    cases rx with
    | cons r t =>
      cases t
      cases r with
      | d r => cases r with
        | lst h1 h2 => exact ⟨_, _, rfl, by rw [← hK]; exact w1.ex.l h1, by rw [← hK]; exact p1.ok w1 (wk_enum h1 h2)⟩
  · cases e1
/-- zip of two lists -/
def zipI : List D → List D → List Sv
  | x :: r, y :: s => .d (.tup [x, y]) :: zipI r s
  | _, _ => []
theorem zipI_get : ∀ (l m : List D) (i : Nat), (zipI l m)[i]? = (l[i]?).bind fun x => (m[i]?).map fun y => Sv.d (.tup [x, y])
  | [], m, i => by simp [zipI]
  | x :: r, [], i => by cases i <;> simp [zipI]
  | x :: r, y :: s, 0 => by simp [zipI]
  | x :: r, y :: s, i + 1 => by simpa [zipI] using zipI_get r s i
theorem zipI_len : ∀ (l m : List D), (zipI l m).length = min l.length m.length
  | [], m => by simp [zipI]
  | x :: r, [] => by simp [zipI]
  | x :: r, y :: s => by simp [zipI, zipI_len r s]
def fZip (fr : Fz (List Sv)) : Fz (List Sv) := fun δ μ => (fr δ μ).bind fun as μ => match as with
  | [.d (.lst l), .d (.lst m)] => some (.ok (zipI l m), μ)
  | _ => none
theorem wk_zip {l l2 : Addr} {vs vs2 : List V} {ds ds2 : List D} (h1 : SqL G.K F l vs) (h2 : RpL G F vs ds) (h3 : SqL G.K F l2 vs2) (h4 : RpL G F vs2 ds2) : WalkOk G F ρ (Itz G.K l l2) (zipI ds ds2) := by
  intro F' ρ' μ' H' g w i
  have r1 := w.ex.l (g.f.l h1)
  have r3 := w.ex.l (g.f.l h3)
  have r2 := h2.mono g.f
  have r4 := h4.mono g.f
  refine ⟨fun hi => ⟨vs, vs2, r1, r3, by rw [zipI_len] at hi; rw [h2.len, h4.len]; omega⟩, fun y hy => ?_⟩
  rw [zipI_get] at hy
  cases hd : ds[i]? with
  | none => rw [hd] at hy; cases hy
  | some d =>
    cases hd2 : ds2[i]? with
    | none => rw [hd, hd2] at hy; cases hy
    | some d2 =>
      rw [hd, hd2] at hy
      have hy' : Sv.d (.tup [d, d2]) = y := Option.some.inj hy
      subst hy'
      obtain ⟨u, hu, ru⟩ := RsL.get (RsL.ofD (ρ := ρ') r2) (show (ds.map Sv.d)[i]? = some (.d d) by rw [List.getElem?_map, hd]; rfl)
      obtain ⟨u2, hu2, ru2⟩ := RsL.get (RsL.ofD (ρ := ρ') r4) (show (ds2.map Sv.d)[i]? = some (.d d2) by rw [List.getElem?_map, hd2]; rfl)
      refine ⟨⟨vs, vs2, u, u2, r1, r3, hu, hu2⟩, fun x H'' ⟨T, z, z2, ev, hT, eH, hx, hx2⟩ => ?_⟩
      have e1 := hx vs r1
      rw [hu] at e1; cases e1
      have e2 := hx2 vs2 r3
      rw [hu2] at e2; cases e2
      subst ev eH
      obtain ⟨w2, g2⟩ := w.newD hT (.tup [u, u2])
      refine ⟨_, ρ', g2, w2, .d (.tup (SqT.of upd_same) ?_)⟩
      cases ru with
      | d ru => cases ru2 with
        | d ru2 => exact .cons (ru.mono g2.f) (.cons (ru2.mono g2.f) .nil)
theorem zi_zip (hK : G.K = X.K) {elts : List Expr} {kk : Nat} {tpos : Pos} (hg : Gl X "zip") (hm : X.mg "zip" = none) (ha : PA X [a, b] (zA G W fr)) (hs : starEach [a, b] X.env = (false, eval a X.env) :: starEach [b] X.env := by rfl) (hpl : (backTo pos (starEach [b] X.env)).any (·.1) = false := by rfl) :
    PI X (.Tuple elts kk tpos) (.Call (.Name "zip" p) [a, b] [] pos) (zI G W (fZip fr)) := piImp (pi_zip hg hm ha hs hpl) fun σ H R q => by
  obtain ⟨F, ρ, δ, μ, rr, w, s, e, p⟩ := q
  refine zstep w s e p fun sa μ1 x F1 ρ1 H1 g1 w1 s1 rx e1 p1 => ?_
  split at e1
  · cases e1
    cases rx with
    | cons r t => cases t with
      | cons r' t =>
        cases t
        cases r with
        | d r => cases r with
          | lst h1 h2 => cases r' with
            | d r' => cases r' with
              | lst h3 h4 => exact ⟨_, _, _, _, rfl, by rw [← hK]; exact w1.ex.l h1, by rw [← hK]; exact w1.ex.l h3, by rw [← hK]; exact p1.ok w1 (wk_zip h1 h2 h3 h4)⟩
  · cases e1
end
end Z
namespace Z
open PySem PySem.Spec PyProof.Rows L2
section
variable {G : Gx} {X : Cx} {W : WX} {F : Hp} {ρ : List Addr} {μ : Mu} {H : Hp} {a b e o tg : Expr} {es : List Expr} {fa fb fo : Fz Sv} {fr : Fz (List Sv)} {pos p2 p apos : Pos} {x : Str} {id T : String}
/-! ### methods of what is built in -/
def tyS (T : String) (μ : Mu) : Sv → Bool
  | .d (.str _) => T == "str"
  | .d (.lst _) => T == "list"
  | .c n => match μ[n]? with
    | some (.lst _) => T == "list"
    | some (.dct _) => T == "dict"
    | _ => false
  | _ => false
theorem tyS_at (hK : G.K = X.K) {v : V} {sv : Sv} (w : Wf G F ρ μ H) (r : Rs G F ρ v sv) (h : tyS T μ sv = true) : tyV X.K T v H := by
  unfold tyS at h
  split at h
  · cases r with | d r => cases r; exact eq_of_beq h
  · cases r with | d r => cases r with | lst h1 h2 => exact .inl ⟨eq_of_beq h, _, by rw [← hK]; exact w.ex.l h1⟩
  · cases r with
    | c hr =>
      split at h
      · rename_i xs hx
        obtain ⟨_, ws, h1, h2⟩ := w.cell _ _ _ hr hx
        exact .inl ⟨eq_of_beq h, _, .inl (.inl h1)⟩
      · rename_i xs hx
        obtain ⟨_, ws, h1, h2⟩ := w.cell _ _ _ hr hx
        exact .inr (.inr (.inl ⟨eq_of_beq h, .inl ⟨_, h1⟩⟩))
      · cases h
  · cases h
abbrev Opm := Sv → List Sv → Mu → Rz Sv
def fM (T : String) (m : Opm) (fo : Fz Sv) (fr : Fz (List Sv)) : Fz Sv := fun δ μ => (fo δ μ).bind fun o μ => if tyS T μ o = true then (fr δ μ).bind fun as μ => m o as μ else none
def SOm (G : Gx) (W : WX) (r : V → List V → Hp → VK → Prop) (m : Opm) : Prop := ∀ (F : Hp) (ρ : List Addr) (μ : Mu) (H : Hp) (σ : L2.St) (x : V) (o : Sv) (vs : List V) (as : List Sv) (rr : Except Exn Sv × Mu) (Q : VK),
  Wf G F ρ μ H → Rs G F ρ x o → RsL G F ρ vs as → m o as μ = some rr → Post G W σ F ρ (Rs G) Q rr → r x vs H Q
theorem zm_reads (hK : G.K = X.K) {r : V → List V → Hp → VK → Prop} {m : Opm} (so : SOm G W r m) {σ : L2.St} {H : Hp} {Q : VK} (q : zE G W (fM T m fo fr) σ H Q) : tBM X.K T r (zE G W fo) (zA G W fr) σ H Q := by
  obtain ⟨F, ρ, δ, μ, rr, w, s, e, p⟩ := q
  refine zstep w s e p fun sa μ1 x F1 ρ1 H1 g1 w1 s1 rx e1 p1 => ?_
  split at e1
  · rename_i ht
    refine ⟨tyS_at hK w1 rx ht, ?_⟩
    refine zstep w1 s1 e1 p1 fun sb μ2 y F2 ρ2 H2 g2 w2 s2 ry e2 p2 => ?_
    exact so F2 ρ2 μ2 H2 σ x sa y sb rr Q w2 (rx.mono g2) ry e2 p2
  · cases e1
theorem z_bm (hK : G.K = X.K) {name : Str} {cpos : Pos} {r : V → List V → Hp → VK → Prop} {m : Opm} (pa : PlainAttrs T) (slot : Slot T name id) (hty : typeOf (.builtin id) = pure (.type "method_descriptor")) (hm : MtR X id r) (so : SOm G W r m) (ho : PE X o (zE G W fo)) (ha : PA X (e :: es) (zA G W fr))
    (hbase : attributeBase o name X.env (eval o X.env) = eval o X.env := by rfl)
    (hfew : ((backTo cpos (starEach (e :: es) X.env)).all (fun x => !x.1) && (backToKw cpos (keywordEach [] X.env)).all (fun x => x.1.isSome)
      && decide ((e :: es).length + ([] : List Keyword).length + (if ([] : List Keyword).isEmpty then 0 else 1) < 30)) = true := by rfl)
    (hline : (apos.endLine == cpos.line) = true := by rfl) (hs : starEach (e :: es) X.env = (false, eval e X.env) :: starEach es X.env := by rfl) (hplain : (backTo cpos (starEach es X.env)).any (·.1) = false := by rfl) :
    PE X (.Call (.Attribute o name apos) (e :: es) [] cpos) (zE G W (fM T m fo fr)) := peImp (pe_bm pa slot hty hm ho ha hbase hfew hline hs hplain) fun _ _ _ q => zm_reads hK so q
theorem z_bm0 (hK : G.K = X.K) {name : Str} {cpos : Pos} {r : V → List V → Hp → VK → Prop} {m : Opm} (pa : PlainAttrs T) (slot : Slot T name id) (hty : typeOf (.builtin id) = pure (.type "method_descriptor")) (hm : MtR X id r) (so : SOm G W r m) (ho : PE X o (zE G W fo))
    (hbase : attributeBase o name X.env (eval o X.env) = eval o X.env := by rfl) (hline : (apos.endLine == cpos.line) = true := by rfl) :
    PE X (.Call (.Attribute o name apos) [] [] cpos) (zE G W (fM T m fo fNil)) := peImp (pe_bm0 pa slot hty hm ho hbase hline) fun σ H Q q => by
  obtain ⟨F, ρ, δ, μ, rr, w, s, e, p⟩ := q
  refine zstep w s e p fun sa μ1 x F1 ρ1 H1 g1 w1 s1 rx e1 p1 => ?_
  split at e1
  · rename_i ht
    exact ⟨tyS_at hK w1 rx ht, so F1 ρ1 μ1 H1 σ x sa [] [] rr Q w1 rx .nil e1 p1⟩
  · cases e1
/-- xs.append(y) -/
def mApp : Opm := fun o as μ => match o, as with
  | .c n, [y] => match μ[n]? with
    | some (.lst xs) => if xs.length < 16777216 then some (.ok (.d .non), μ.set n (.lst (xs ++ [y]))) else none
    | _ => none
  | _, _ => none
theorem so_app : SOm G W rAppend mApp := by
  intro F ρ μ H σ x o vs as rr Q w rx r h p
  unfold mApp at h
  split at h
  · split at h
    · rename_i xs hx
      split at h
      · rename_i hl
        cases h
        cases rx with
        | c hr =>
          cases r with
          | cons r t =>
            cases t
            obtain ⟨h0, ws, h1, h2⟩ := w.cell _ _ _ hr hx
            refine ⟨_, _, _, rfl, rfl, h1, by rw [h2.len, szl]; exact hl, ?_⟩
            exact p.ok (w.setC hr h0 (show CellOk G F ρ _ _ (.lst _) from ⟨h0, _, upd_same, h2.app (.cons r .nil)⟩)) (.d .non)
      · cases h
    · cases h
  · cases h
/-- xs.pop() -/
def mPop : Opm := fun o as μ => match o, as with
  | .c n, [] => match μ[n]? with
    | some (.lst xs) => match xs[xs.length - 1]? with
      | some y => some (.ok y, μ.set n (.lst xs.dropLast))
      | none => none
    | _ => none
  | _, _ => none
theorem so_pop : SOm G W rPop mPop := by
  intro F ρ μ H σ x o vs as rr Q w rx r h p
  unfold mPop at h
  split at h
  · split at h
    · rename_i xs hx
      split at h
      · rename_i y hy
        cases h
        cases rx with
        | c hr =>
          cases r
          obtain ⟨h0, ws, h1, h2⟩ := w.cell _ _ _ hr hx
          obtain ⟨u, hu, ru⟩ := h2.get hy
          refine ⟨_, _, u, rfl, rfl, h1, by rw [h2.len]; exact hu, ?_⟩
          exact p.ok (w.setC hr h0 (show CellOk G F ρ _ _ (.lst _) from ⟨h0, _, upd_same, h2.dropLast⟩)) ru
      · cases h
    · cases h
  · cases h
/-- xs.pop(i) -/
def mPopI : Opm := fun o as μ => match o, as with
  | .c n, [.d (.int i)] => match μ[n]? with
    | some (.lst xs) => match ixN xs.length i with
      | some k => match xs[k]? with
        | some y => if xs.length ≤ 16777216 then some (.ok y, μ.set n (.lst (xs.eraseIdx k))) else none
        | none => none
      | none => none
    | _ => none
  | _, _ => none
theorem so_popI : SOm G W rPopAt mPopI := by
  intro F ρ μ H σ x o vs as rr Q w rx r h p
  unfold mPopI at h
  split at h
  · split at h
    · rename_i xs hx
      split at h
      · rename_i k hk
        split at h
        · rename_i y hy
          split at h
          · rename_i hl
            cases h
            cases rx with
            | c hr =>
              cases r with
              | cons r t =>
                cases t
                cases r with
                | d r =>
                  cases r
                  obtain ⟨h0, ws, h1, h2⟩ := w.cell _ _ _ hr hx
                  obtain ⟨u, hu, ru⟩ := h2.get hy
                  obtain ⟨q1, q2, q3, q4⟩ := ixN_seq hk
                  refine ⟨_, _, _, k, u, rfl, rfl, h1, by omega, by omega, by rw [h2.len]; exact q1, hu, ?_⟩
                  exact p.ok (w.setC hr h0 (show CellOk G F ρ _ _ (.lst _) from ⟨h0, _, upd_same, h2.erase k⟩)) ru
          · cases h
        · cases h
      · cases h
    · cases h
  · cases h
/-- xs.clear() -/
def mClear : Opm := fun o as μ => match o, as with
  | .c n, [] => match μ[n]? with
    | some (.lst xs) => some (.ok (.d .non), μ.set n (.lst []))
    | _ => none
  | _, _ => none
theorem so_clear : SOm G W rClear mClear := by
  intro F ρ μ H σ x o vs as rr Q w rx r h p
  unfold mClear at h
  split at h
  · split at h
    · rename_i xs hx
      cases h
      cases rx with
      | c hr =>
        cases r
        obtain ⟨h0, ws, h1, h2⟩ := w.cell _ _ _ hr hx
        refine ⟨_, _, rfl, rfl, h1, ?_⟩
        exact p.ok (w.setC hr h0 (show CellOk G F ρ _ _ (.lst _) from ⟨h0, _, upd_same, .nil⟩)) (.d .non)
    · cases h
  · cases h
/-- sep.join(xs) -/
def toStrs : List D → Option (List (List Nat))
  | [] => some []
  | .str s :: r => (toStrs r).map fun l => s :: l
  | _ :: _ => none
def joinL (sep : List Nat) : List (List Nat) → List Nat
  | [] => []
  | [x] => x
  | x :: y :: r => x ++ (sep ++ joinL sep (y :: r))
def mJoin : Opm := fun o as μ => match o, as with
  | .d (.str sep), [v] => match seqV μ v with
    | some xs => match toDs xs with
      | some ds => match toStrs ds with
        | some ss => if (ss.map (·.length)).sum + ss.length * sep.length ≤ 16777216 then okz (.str (joinL sep ss)) μ else none
        | none => none
      | none => none
    | none => none
  | _, _ => none
theorem toStrs_at : ∀ {vs : List V} {ds : List D} {ss : List (List Nat)}, RpL G F vs ds → toStrs ds = some ss → ∃ ys : List Str, vs = ys.map V.str ∧ ys.map TL.tl = ss
  | _, _, ss, .nil, h => by cases h; exact ⟨[], rfl, rfl⟩
  | _, d :: r, ss, .cons h1 h2, h => by
    cases h1 with
    | str x =>
      unfold toStrs at h
      cases hr : toStrs r with
      | none => rw [hr] at h; cases h
      | some l =>
        rw [hr] at h; cases h
        obtain ⟨ys, e1, e2⟩ := toStrs_at h2 hr
        exact ⟨x :: ys, by rw [e1]; rfl, by rw [← e2]; rfl⟩
    | _ => cases h
theorem joinL_eq (sep : List Nat) : ∀ ss, joinL sep ss = TL.joinL sep ss
  | [] => rfl
  | [x] => rfl
  | x :: y :: r => by
    show x ++ (sep ++ joinL sep (y :: r)) = _
    rw [joinL_eq sep (y :: r)]
    rfl
theorem so_join (hK : G.K = X.K) : SOm G W (fun x xs H Q => ∃ a p, ∃ ys : List Str, x = .str a ∧ xs = [.ref p] ∧ (SqL X.K H p (ys.map V.str) ∨ SqT X.K H p (ys.map V.str)) ∧
    (ys.map (·.length)).sum + ys.length * a.length ≤ 16777216 ∧ Q (.str (Txt.join a ys)) H) mJoin := by
  intro F ρ μ H σ x o vs as rr Q w rx r h p
  unfold mJoin at h
  split at h
  · split at h
    · rename_i xs hx
      split at h
      · rename_i ds hd
        split at h
        · rename_i ss hs
          split at h
          · rename_i hl
            cases h
            cases r with
            | cons r t =>
              cases t
              cases rx with
              | d rx =>
                cases rx with
                | str sp =>
                  obtain ⟨ax, us, rfl, h2, h3⟩ := seqV_at hK w r hx
                  rw [of_toDs hd] at h3
                  obtain ⟨ys, e1, e2⟩ := toStrs_at (RsL.toD h3) hs
                  subst e1
                  refine ⟨sp, _, ys, rfl, rfl, h2, ?_, p.ok w (.d (rpS ?_))⟩
                  · rw [← e2, List.map_map, List.length_map] at hl
                    rw [lenS]
                    have e3 : (List.length ∘ TL.tl) = Str.length := funext fun z => (TL.len_tl z).symm
                    rw [show (fun x : List Nat => x.length) ∘ TL.tl = Str.length from e3] at hl
                    exact hl
                  · rw [joinL_eq, ← e2]
                    show TL.tl (Txt.join sp ys) = _
                    rw [TL.join_eq, TL.tl_join]
          · cases h
        · cases h
      · cases h
    · cases h
  · cases h
/-- s.endswith(t) -/
def endsL (s t : List Nat) : Bool := decide (t.length ≤ s.length ∧ s.drop (s.length - t.length) = t)
end
end Z
namespace Z
open PySem PySem.Spec PyProof.Rows L2
section
variable {G : Gx} {X : Cx} {W : WX} {F : Hp} {ρ : List Addr} {μ : Mu} {H : Hp} {a b e o tg : Expr} {es : List Expr} {fa fb fo fi fv : Fz Sv} {fr : Fz (List Sv)} {pos p2 p apos pos' : Pos} {x : Str} {id T : String}
def mEnds : Opm := fun o as μ => match o, as with
  | .d (.str s), [.d (.str t)] => okz (.bl (endsL s t)) μ
  | _, _ => none
theorem endsL_eq (a b : Str) : Txt.endswith a b = endsL (TL.tl a) (TL.tl b) := by
  unfold Txt.endswith endsL
  rw [PySem.StrLaws.subAt_eq, TL.len_tl, TL.len_tl, Nat.zero_add]
  by_cases h : (TL.tl b).length ≤ (TL.tl a).length
  · have e : ((TL.tl a).drop ((TL.tl a).length - (TL.tl b).length)).take (TL.tl b).length = (TL.tl a).drop ((TL.tl a).length - (TL.tl b).length) := List.take_of_length_le (by rw [List.length_drop]; omega)
    show (decide _ && (((TL.tl a).drop _).take _ == TL.tl b)) = _
    rw [e]
    have h2 : b.cps.size ≤ a.cps.size := by simpa using h
    simp only [TL.tl, Array.length_toList, h2, decide_true, Bool.true_and, true_and]
    rw [Bool.eq_iff_iff, beq_iff_eq, decide_eq_true_iff]
  · have h2 : ¬ b.cps.size ≤ a.cps.size := by simpa using h
    simp only [TL.tl, Array.length_toList, h2, decide_false, Bool.false_and, false_and]
theorem so_ends : SOm G W (fun x xs H Q => ∃ a b, x = .str a ∧ xs = [.str b] ∧ Q (.bl (Txt.endswith a b)) H) mEnds := by
  intro F ρ μ H σ x o vs as rr Q w rx r h p
  unfold mEnds at h
  split at h
  · cases h
    cases rx with
    | d rx => cases rx with
      | str sa => cases r with
        | cons r t =>
          cases t
          cases r with
          | d r => cases r with
            | str sb => exact ⟨sa, sb, rfl, rfl, by rw [endsL_eq]; exact p.ok w (.d (.bl _))⟩
  · cases h

/-! ### dicts -/
def fDct : Fz Sv := fun _ μ => some (.ok (.c μ.length), μ ++ [.dct []])
theorem z_dct : PE X (.Dict [] [] pos) (zE G W fDct) := peImp pe_dnewK fun σ H Q q => by
  obtain ⟨F, ρ, δ, μ, rr, w, s, e, p⟩ := q
  cases e
  intro q hq
  obtain ⟨w2, g2⟩ := w.newC hq (o := .dK []) (c := .dct []) ⟨w.ex.none hq, [], upd_same, .nil⟩
  exact p _ _ _ _ g2 w2 (.c (by rw [← w.len]; simp))
def putS (kvs : List (Key × Sv)) (k : Key) (v : Sv) : List (Key × Sv) :=
  if (kvs.any fun kv => decide (kv.1 = k)) = true then kvs.map (fun kv => if kv.1 = k then (kv.1, v) else kv) else kvs ++ [(k, v)]
theorem RsK.any {k : Key} : ∀ {vs : List (Key × V)} {xs : List (Key × Sv)}, RsK G F ρ vs xs → (vs.any fun kv => decide (kv.1 = k)) = (xs.any fun kv => decide (kv.1 = k))
  | _, _, .nil => rfl
  | _, _, .cons _ r => by simp only [List.any_cons, RsK.any r]
theorem RsK.mapput {k : Key} {v : V} {y : Sv} (q : Rs G F ρ v y) : ∀ {vs : List (Key × V)} {xs : List (Key × Sv)}, RsK G F ρ vs xs → RsK G F ρ (vs.map fun kv => if kv.1 = k then (kv.1, v) else kv) (xs.map fun kv => if kv.1 = k then (kv.1, y) else kv)
  | _, _, .nil => .nil
  | _, _, .cons (k := k') h r => by
    simp only [List.map_cons]
    by_cases hk : k' = k
    · simp only [hk, if_true]; exact .cons q (RsK.mapput q r)
    · simp only [hk, if_false]; exact .cons h (RsK.mapput q r)
theorem RsK.app : ∀ {v w : List (Key × V)} {x y : List (Key × Sv)}, RsK G F ρ v x → RsK G F ρ w y → RsK G F ρ (v ++ w) (x ++ y)
  | _, _, _, _, .nil, s => s
  | _, _, _, _, .cons h r, s => .cons h (RsK.app r s)
theorem RsK.put {k : Key} {v : V} {y : Sv} (q : Rs G F ρ v y) {vs : List (Key × V)} {xs : List (Key × Sv)} (r : RsK G F ρ vs xs) : RsK G F ρ (putK vs k v) (putS xs k y) := by
  unfold putK putS
  rw [r.any]
  split
  · exact r.mapput q
  · exact r.app (.cons q .nil)
/-- d[k] = v, xs[i] = v -/
def setAt (o i v : Sv) (δ : Dl) (μ : Mu) : Sr := match o with
  | .c n => match μ[n]? with
    | some (.dct kvs) => match keyOf i with
      | some k => if kvs.length < 16777216 then some (.nx, δ, μ.set n (.dct (putS kvs k v))) else none
      | none => none
    | some (.lst xs) => match i with
      | .d (.int i) => match ixN xs.length i with
        | some j => some (.nx, δ, μ.set n (.lst (xs.set j v)))
        | none => none
      | _ => none
    | _ => none
  | _ => none
def sPut (fo fi fv : Fz Sv) : Sz := fun δ μ => eS (fv δ μ) δ fun v μ => eS (fo δ μ) δ fun o μ => eS (fi δ μ) δ fun i μ => setAt o i v δ μ
def rSetD : V → V → V → Hp → (Hp → Prop) → Prop := fun o i v H Q => ∃ a H', o = .ref a ∧ DPut H a i v H' ∧ Q H'
theorem set_dict (hu : X.A.units + 1 < cLine) : PSet X rSetD := by
  intro pins s σ H o i v ov iv u Q I ro ri rv h
  obtain ⟨a, H', rfl, g, q⟩ := h
  obtain rfl : ov = Value.ref a := ro
  exact d_setItem hu I g ri rv fun s4 I4 => ⟨H', I4, q⟩
def rSetZ : V → V → V → Hp → (Hp → Prop) → Prop := fun o i v H Q => rSetL o i v H Q ∨ rSetD o i v H Q
theorem set_Z (hu : X.A.units + 1 < cLine) : PSet X rSetZ := fun pins s σ H o i v ov iv u Q I ro ri rv h =>
  h.elim (set_list pins s σ H o i v ov iv u Q I ro ri rv) (set_dict hu pins s σ H o i v ov iv u Q I ro ri rv)
theorem zs_put (hu : X.A.units + 1 < cLine) (ho : PE X o (zE G W fo)) (hi : PE X b (zE G W fi)) (hv : PE X e (zE G W fv)) (hg : PG X (.Subscript o b pos') (gSub (zE G W fo) (zE G W fi) rSetZ))
    (hs : swapsWithSole [.Subscript o b pos'] e pos.line X.env = pure false := by rfl) (hw : swappedStores [.Subscript o b pos'] e X.env = pure none := by rfl)
    (h1 : (assignEach [.Subscript o b pos'] X.env).map (·.2) = [assign (.Subscript o b pos') X.env] := by rfl) : PS X (.Assign [.Subscript o b pos'] e pos) (zS G W (sPut fo fi fv)) := psImp (ps_asg hv hg hs hw h1) fun D σ H q => by
  obtain ⟨F, ρ, δ, μ, r, w, s, e, p⟩ := q
  refine zstepS w s e p fun sv μ1 v F1 ρ1 H1 g1 w1 s1 rv e1 p1 => ?_
  refine zstepS w1 s1 e1 p1 fun so μ2 ov F2 ρ2 H2 g2 w2 s2 ro e2 p2 => ?_
  refine zstepS w2 s2 e2 p2 fun si μ3 iv F3 ρ3 H3 g3 w3 s3 ri e3 p3 => ?_
  have rv3 := rv.mono (g2.trans g3)
  have ro3 := ro.mono g3
  unfold setAt at e3
  split at e3
  · cases ro3 with
    | c hr =>
      split at e3
      · rename_i kvs hk
        split at e3
        · rename_i k hkey
          split at e3
          · rename_i hl
            cases e3
            obtain ⟨h0, ws, h1', h2⟩ := w3.cell _ _ _ hr hk
            refine .inr ⟨_, _, rfl, ?_, p3.nx rfl (w3.setC hr h0 (show CellOk G F3 ρ3 _ _ (.dct _) from ⟨h0, _, upd_same, h2.put (k := k) rv3⟩)) s3⟩
            rw [keyOf_at ri hkey]
            exact DPut.k h1' (by rw [h2.len, szl]; exact hl)
          · cases e3
        · cases e3
      · rename_i xs hx
        split at e3
        · split at e3
          · rename_i j hj
            cases e3
            obtain ⟨h0, ws, h1', h2⟩ := w3.cell _ _ _ hr hx
            cases ri with
            | d ri =>
              cases ri
              exact .inl ⟨_, ws, _, j, rfl, rfl, h1', by rw [h2.len]; exact hj, p3.nx rfl (w3.setC hr h0 (show CellOk G F3 ρ3 _ _ (.lst _) from ⟨h0, _, upd_same, h2.set rv3 j⟩)) s3⟩
          · cases e3
        · cases e3
      · cases e3
  · cases e3
/-- {k: v, ..} -/
def fPairs : List (Fz Sv × Fz Sv) → Fz (List (Key × Sv))
  | [], _, μ => some (.ok [], μ)
  | (fk, fv) :: r, δ, μ => (fk δ μ).bind fun k μ => (fv δ μ).bind fun v μ => (fPairs r δ μ).bind fun l μ => match keyOf k with
    | some k => some (.ok ((k, v) :: l), μ)
    | none => none
def fDisp (ps : List (Fz Sv × Fz Sv)) : Fz Sv := fun δ μ => (fPairs ps δ (μ ++ [.dct []])).bind fun kvs μ1 => match μ1[μ.length]? with
  | some (.dct []) => if kvs.length ≤ 15 then some (.ok (.c μ.length), μ1.set μ.length (.dct (kvs.foldl (fun acc kv => putS acc kv.1 kv.2) []))) else none
  | _ => none
def zPs (G : Gx) (W : WX) (ps : List (Fz Sv × Fz Sv)) : List (TE × TE) := ps.map fun p => (zE G W p.1, zE G W p.2)
theorem RsK.merge {vs : List (Key × V)} {xs : List (Key × Sv)} (r : RsK G F ρ vs xs) : ∀ {a : List (Key × V)} {b : List (Key × Sv)}, RsK G F ρ a b → RsK G F ρ (mergeK a vs) (xs.foldl (fun acc kv => putS acc kv.1 kv.2) b) := by
  induction r with
  | nil => intro a b h; exact h
  | cons q r ih => intro a b h; exact ih (h.put q)
theorem bind_assoc {α β γ : Type} (r : Rz α) (f : α → Mu → Rz β) (k : β → Mu → Rz γ) : (r.bind f).bind k = r.bind fun a μ => (f a μ).bind k := by
  cases r with
  | none => rfl
  | some q => obtain ⟨q, μ⟩ := q; cases q <;> rfl
theorem fPairs_cons (fk fv : Fz Sv) (ps : List (Fz Sv × Fz Sv)) (δ : Dl) (μ : Mu) : fPairs ((fk, fv) :: ps) δ μ = (fk δ μ).bind fun k μ => (fv δ μ).bind fun v μ => (fPairs ps δ μ).bind fun l μ => match keyOf k with
    | some k => some (.ok ((k, v) :: l), μ)
    | none => none := rfl
theorem pairs_at {σ : L2.St} {δ : Dl} : ∀ {ps : List (Fz Sv × Fz Sv)} {F : Hp} {ρ : List Addr} {μ : Mu} {H : Hp} {k : List (Key × Sv) → Mu → Rz Sv} {r : Except Exn Sv × Mu} {Q : VK} {R : List (V × V) → Hp → Prop}, Wf G F ρ μ H → Sl G F ρ σ δ → (fPairs ps δ μ).bind k = some r → Post G W σ F ρ (Rs G) Q r →
    (∀ kvs μ1 (vs : List (Key × V)) F1 ρ1 H1, Gr F F1 ρ ρ1 → Wf G F1 ρ1 μ1 H1 → RsK G F1 ρ1 vs kvs → k kvs μ1 = some r → Post G W σ F1 ρ1 (Rs G) Q r → R (vs.map fun kv => (kV kv.1, kv.2)) H1) → tPairs (zPs G W ps) σ H R
  | [], F, ρ, μ, H, k, r, Q, R, w, s, e, p, cont => cont [] μ [] F ρ H (Gr.refl F ρ) w .nil e p
  | (fk, fv) :: ps, F, ρ, μ, H, k, r, Q, R, w, s, e, p, cont => by
    rw [fPairs_cons, bind_assoc] at e
    refine zstep w s e p fun kk μ1 kx F1 ρ1 H1 g1 w1 s1 rk e1 p1 => ?_
    rw [bind_assoc] at e1
    refine zstep w1 s1 e1 p1 fun v μ2 vx F2 ρ2 H2 g2 w2 s2 rv e2 p2 => ?_
    rw [bind_assoc] at e2
    refine pairs_at w2 s2 e2 p2 fun l μ3 vs F3 ρ3 H3 g3 w3 rl e3 p3 => ?_
    cases hk : keyOf kk with
    | none => rw [hk] at e3; cases e3
    | some key =>
      rw [hk] at e3
      have hkx := keyOf_at rk hk
      subst hkx
      exact cont ((key, v) :: l) μ3 ((key, vx) :: vs) F3 ρ3 H3 ((g1.trans g2).trans g3) w3 (.cons (rv.mono g3) rl) e3 p3
theorem z_disp {ps : List (Fz Sv × Fz Sv)} {keys : List (Option Expr)} {values : List Expr} (h : PPs X pos keys values (zPs G W ps)) (hall : keys.all (·.isSome) = true := by rfl) (hl : keys.length = values.length := by rfl) (h0 : keys ≠ [] := by (intro z; cases z))
    (h15 : keys.length ≤ 15 := by decide) : PE X (.Dict keys values pos) (zE G W (fDisp ps)) := peImp (pe_disp h hall hl h0 h15) fun σ H Q q => by
  obtain ⟨F, ρ, δ, μ, rr, w, s, e, p⟩ := q
  intro d hd
  obtain ⟨w2, g2⟩ := w.newC hd (o := .dK []) (c := .dct []) ⟨w.ex.none hd, [], upd_same, .nil⟩
  refine pairs_at w2 (s.mono g2) e (p.mono g2) fun kvs μ1 vs F1 ρ1 H1 g1 w1 rk e1 p1 => ?_
  have nD : ρ1[μ.length]? = some d := g1.at (by rw [← w.len]; simp)
  split at e1
  · rename_i hc
    split at e1
    · rename_i hl15
      cases e1
      obtain ⟨c0, ws, c1, c2⟩ := w1.cell _ _ _ nD hc
      cases c2
      refine ⟨c1, vs, rfl, by rw [rk.len]; exact hl15, ?_⟩
      exact p1.ok (w1.setC nD c0 (show CellOk G F1 ρ1 _ _ (.dct _) from ⟨c0, _, upd_same, rk.merge .nil⟩)) (.c nD)
    · cases e1
  · cases e1
theorem zp_nil : PPs X pos [] [] (zPs G W []) := pps_nil
theorem zp_cons {k v : Expr} {ks : List (Option Expr)} {vs : List Expr} {fk fv : Fz Sv} {r : List (Fz Sv × Fz Sv)} (hk : PE X k (zE G W fk)) (hv : PE X v (zE G W fv)) (hr : PPs X pos ks vs (zPs G W r)) : PPs X pos (some k :: ks) (v :: vs) (zPs G W ((fk, fv) :: r)) := pps_cons hk hv hr

/-! ### several targets -/
/-- a, b, .. = e -/
def sAsg (g : Tz) (fa : Fz Sv) : Sz := fun δ μ => eS (fa δ μ) δ fun v μ => match g v δ with
  | some δ' => some (.nx, δ', μ)
  | none => none
theorem zs_asg {t : TG} {g : Tz} {js : List Nat} (zg : ZG G js t g) (hg : PG X tg t) (ha : PE X e (zE G W fa)) (hs : swapsWithSole [tg] e pos.line X.env = pure false := by rfl) (hw : swappedStores [tg] e X.env = pure none := by rfl)
    (h1 : (assignEach [tg] X.env).map (·.2) = [assign tg X.env] := by rfl) : PS X (.Assign [tg] e pos) (zS G W (sAsg g fa)) := psImp (ps_asg ha hg hs hw h1) fun D σ H q => by
  obtain ⟨F, ρ, δ, μ, r, w, s, e, p⟩ := q
  refine zstepS w s e p fun sv μ1 v F1 ρ1 H1 g1 w1 s1 rv e1 p1 => ?_
  split at e1
  · rename_i δ' hg'
    cases e1
    exact zg.ok F1 ρ1 μ1 H1 σ δ δ' v sv _ w1 s1 rv hg' fun σ' _ s' => p1.nx rfl w1 s'
  · cases e1
/-- a, b = e1, e2 -/
def sPar (i j : Nat) (fr : Fz (List Sv)) : Sz := fun δ μ => eS (fr δ μ) δ fun as μ => match as with
  | [v, w] => some (.nx, (δ.set i (some v)).set j (some w), μ)
  | _ => none
theorem zs_par {i j : Nat} {x y : Str} {px py pt : Pos} {kt k2 pt2} (hc : X.calm = true) (hN : X.N.Nodup) (hi : X.N[i]? = some x) (hj : X.N[j]? = some y) (hij : i ≠ j)
    (hx : X.env.scope.names.lookup x = some .local) (hy : X.env.scope.names.lookup y = some .local) (ha : PA X [a, b] (zA G W fr))
    (hw : swappedStores [.Tuple [.Name x px, .Name y py] kt pt] (.Tuple [a, b] k2 pt2) X.env = pure (some [x, y]))
    (hs : swapsWithSole [.Tuple [.Name x px, .Name y py] kt pt] (.Tuple [a, b] k2 pt2) pos.line X.env = pure false := by rfl) :
    PS X (.Assign [.Tuple [.Name x px, .Name y py] kt pt] (.Tuple [a, b] k2 pt2) pos) (zS G W (sPar i j fr)) := psImp (ps_par hc hN hi hj hij hx hy ha hw hs) fun D σ H q => by
  obtain ⟨F, ρ, δ, μ, r, w, s, e, p⟩ := q
  refine zstepS w s e p fun as μ1 vs F1 ρ1 H1 g1 w1 s1 rv e1 p1 => ?_
  split at e1
  · cases e1
    cases rv with
    | cons r1 t => cases t with
      | cons r2 t => cases t; exact ⟨_, _, rfl, p1.nx rfl w1 ((s1.set r1 i).set r2 j)⟩
  · cases e1
/-- a slot's cell is changed no more -/
noncomputable def sFz (i : Nat) (S : Sz) : Sz := fun δ μ => match δ[i]? with
  | some (some (.c n)) => match frzV μ (.c n) μ with
    | some (.ok v, μ') => S (δ.set i (some v)) μ'
    | _ => none
  | _ => S δ μ
end
end Z
namespace Z
open PySem PySem.Spec PyProof.Rows L2
/-- what the top says of a def -/
structure GFn (P : Program) (w : World) (G : Gx) (mg : Str → Option Value) (base : Heap) (x : Str) (k : Nat) (fn : Fn) (dds : List D) : Prop where
  ok : ∃ f fd ps ds dvs, mg x = some (.ref f) ∧ PySem.W.keepIn G.K (.ref f) = true ∧ FnOk P w G.K mg base (L2.CX P w) k f fd ps (spF G fn) ∧ Binds G.K fd ps ds ∧ Vals dvs ds ∧ ∀ F, RpL G F dvs dds
theorem GFn.of {P : Program} {w : World} {G : Gx} {mg : Str → Option Value} {base : Heap} {x : Str} {k : Nat} {fn : Fn} {f : Addr} {fd : FuncData} {ps : List Str} (hm : mg x = some (.ref f)) (hk : PySem.W.keepIn G.K (.ref f) = true)
    (ok : FnOk P w G.K mg base (L2.CX P w) k f fd ps (spF G fn)) (b : Binds G.K fd ps []) : GFn P w G mg base x k fn [] := ⟨f, fd, ps, [], [], hm, hk, ok, b, .nil, fun _ => .nil⟩
theorem GFn.mono {P : Program} {w : World} {G : Gx} {mg : Str → Option Value} {base : Heap} {x : Str} {j k : Nat} {fn : Fn} {dds : List D} (g : GFn P w G mg base x j fn dds) (h : j ≤ k) : GFn P w G mg base x k fn dds := by
  obtain ⟨f, fd, ps, ds, dvs, a, b, c, d⟩ := g
  exact ⟨f, fd, ps, ds, dvs, a, b, c.mono h, d⟩
section
variable {G : Gx} {X : Cx} {W : WX} {k : Nat} {fn : Fn} {dds : List D} {x : Str} {p pos : Pos} {e : Expr} {es : List Expr} {fr : Fz (List Sv)}
theorem z_g (g : GFn X.prog X.w G X.mg X.base x k fn dds) (hK : G.K = X.K) (hr : Room k X.A) (px : Pz X W) (hg : Gl X x) (ha : PA X (e :: es) (zA G W fr)) (hdb : (x == ("__debug__" : Str)) = false := by decide)
    (he : starEach (e :: es) X.env = (false, eval e X.env) :: starEach es X.env := by rfl) (hpl : (backTo pos (starEach es X.env)).any (·.1) = false := by rfl) : PE X (.Call (.Name x p) (e :: es) [] pos) (zE G W (fCall fn dds fr)) := by
  obtain ⟨f, fd, ps, ds, dvs, a, b, c, d, e1, e2⟩ := g
  rw [hK] at b c d
  exact z_call c hr hg a b d e1 e2 px ha hdb he hpl
theorem z_g0 (g : GFn X.prog X.w G X.mg X.base x k fn dds) (hK : G.K = X.K) (hr : Room k X.A) (px : Pz X W) (hg : Gl X x) (hdb : (x == ("__debug__" : Str)) = false := by decide) : PE X (.Call (.Name x p) [] [] pos) (zE G W (fCall fn dds fNil)) := by
  obtain ⟨f, fd, ps, ds, dvs, a, b, c, d, e1, e2⟩ := g
  rw [hK] at b c d
  exact z_call0 c hr hg a b d e1 e2 px hdb
end
/-- the law's own end: at the script (a tree) the function gives True -/
theorem law_sp {G : Gx} {fn : Fn} {H : Hp} {a : Addr} {ns : List Int} (hO : L2.Only H) (hS : SqL G.K H a (ns.map V.int)) (h : ∃ μ', fn [.d (.lst (ns.map D.int))] [] = some (.ok (.d (.bl true)), μ')) :
    spF G fn [.ref a] H (fun v _ => v = .bl true) (fun _ _ _ => False) := by
  obtain ⟨μ', h⟩ := h
  refine ⟨H, [], [], [.d (.lst (ns.map D.int))], _, ⟨Ex.refl H, rfl, List.nodup_nil, fun n a c h1 => by simp at h1, fun a ha => by simp at ha⟩, .cons (.d (.lst hS ?_)) .nil, h, fun v F' ρ' H' g w r => ?_⟩
  · clear hS h
    induction ns with
    | nil => exact .nil
    | cons n r ih => exact .cons (.int n) ih
  · cases r with
    | d r => cases r; rfl
theorem cx_never {P : Program} {w : World} {H : Hp} {s : Shared} {e : Value} {s' : Shared} (h : L2.CX P w [] H s (fun _ _ _ => False) e s') : False := by
  obtain ⟨_, _, _, _, _, _, _, _, _, _, _, _, z⟩ := h
  exact z
end Z
namespace Z
open PySem PySem.Spec PyProof.Rows L2
section
variable {G : Gx} {X : Cx} {W : WX} {a b c d : Expr} {fa fb fc fd : Fz Sv} {pos : Pos} {op op' op'' : CmpOp} {r r' r'' : R2} {o o' o'' : Op2}
/-- behind a link's answer -/
def lnk (v : Sv) (μ : Mu) (k : Mu → Rz Sv) : Rz Sv := match v with
  | .d (.bl true) => k μ
  | .d (.bl false) => okz (.bl false) μ
  | _ => none
def fCh (o o' : Op2) (fa fb fc : Fz Sv) : Fz Sv := fun δ μ => (fa δ μ).bind fun a μ => (fb δ μ).bind fun b μ => (o a b μ).bind fun v μ => lnk v μ fun μ => (fc δ μ).bind fun c μ => o' b c μ
/-- an operation that answers at once, in the middle -/
theorem so_mid {σ : L2.St} {F : Hp} {ρ : List Addr} {μ : Mu} {H : Hp} {x y : V} {sa sb : Sv} {k : Sv → Mu → Rz Sv} {rr : Except Exn Sv × Mu} {Q Q2 : VK} (so : SOp2 G W r o) (w : Wf G F ρ μ H) (rx : Rs G F ρ x sa) (ry : Rs G F ρ y sb) (e : (o sa sb μ).bind k = some rr) (p : Post G W σ F ρ (Rs G) Q2 rr)
    (cont : ∀ v μ1 z F1 ρ1 H1, Gr F F1 ρ ρ1 → Wf G F1 ρ1 μ1 H1 → Rs G F1 ρ1 z v → k v μ1 = some rr → Post G W σ F1 ρ1 (Rs G) Q2 rr → Q z H1) : r x y H Q := by
  cases h : o sa sb μ with
  | none => rw [h] at e; cases e
  | some q =>
    obtain ⟨q, μ1⟩ := q
    rw [h] at e
    cases q with
    | error z => cases e; exact so F ρ μ H σ x y sa sb _ Q w rx ry h p
    | ok v => exact so F ρ μ H σ x y sa sb _ Q w rx ry h fun z F1 ρ1 H1 g1 w1 r1 => cont v μ1 z F1 ρ1 H1 g1 w1 r1 e (p.mono g1)
theorem ch_reads (so : SOp2 G W r o) (so' : SOp2 G W r' o') {σ : L2.St} {H : Hp} {Q : VK} (q : zE G W (fCh o o' fa fb fc) σ H Q) : tChain r r' (zE G W fa) (zE G W fb) (zE G W fc) σ H Q := by
  obtain ⟨F, ρ, δ, μ, rr, w, s, e, p⟩ := q
  refine zstep w s e p fun sa μ1 x F1 ρ1 H1 g1 w1 s1 rx e1 p1 => ?_
  refine zstep w1 s1 e1 p1 fun sb μ2 y F2 ρ2 H2 g2 w2 s2 ry e2 p2 => ?_
  refine so_mid so w2 (rx.mono g2) ry e2 p2 fun v μ3 z F3 ρ3 H3 g3 w3 rz e3 p3 => ?_
  unfold lnk at e3
  split at e3
  · cases rz with
    | d rz =>
      cases rz
      refine ⟨true, rfl, ?_⟩
      rw [if_pos rfl]
      refine zstep w3 (s2.mono g3) e3 p3 fun sc μ4 u F4 ρ4 H4 g4 w4 s4 ru e4 p4 => ?_
      exact so' F4 ρ4 μ4 H4 σ y u sb sc rr Q w4 (ry.mono (g3.trans g4)) ru e4 p4
  · cases rz with
    | d rz =>
      cases rz
      cases e3
      exact ⟨false, rfl, by rw [if_neg Bool.false_ne_true]; exact p3.ok w3 (.d (.bl false))⟩
  · cases e3
theorem z_ch (ho : OpR X (compareOp op) r) (so : SOp2 G W r o) (ho' : OpR X (compareOp op') r') (so' : SOp2 G W r' o') (ha : PE X a (zE G W fa)) (hb : PE X b (zE G W fb)) (hc : PE X c (zE G W fc))
    (hm : lastMarks [op, op'] [b, c] = false := by with_unfolding_all rfl) : PE X (.Compare a [op, op'] [b, c] pos) (zE G W (fCh o o' fa fb fc)) := peImp (pe_chain ho ho' ha hb hc hm) fun _ _ _ q => ch_reads so so' q
theorem zt_ch (ho : OpR X (compareOp op) r) (so : SOp2 G W r o) (ho' : OpR X (compareOp op') r') (so' : SOp2 G W r' o') (ha : PE X a (zE G W fa)) (hb : PE X b (zE G W fb)) (hc : PE X c (zE G W fc))
    (hm : lastMarks [op, op'] [b, c] = false := by with_unfolding_all rfl) : PT X (.Compare a [op, op'] [b, c] pos) (zT G W (fT (fCh o o' fa fb fc))) := ptImp (pt_chain ho ho' ha hb hc hm) fun _ _ _ q => zT_of (fun _ _ _ q => ch_reads so so' q) q
/-- three links -/
def fCh3 (o o' o'' : Op2) (fa fb fc fd : Fz Sv) : Fz Sv := fun δ μ => (fa δ μ).bind fun a μ => (fb δ μ).bind fun b μ => (o a b μ).bind fun v μ => lnk v μ fun μ => (fc δ μ).bind fun c μ => (o' b c μ).bind fun v μ => lnk v μ fun μ => (fd δ μ).bind fun d μ => o'' c d μ
def tCh3 (r r' r'' : R2) (ta tb tc td : TE) : TE := fun σ H Q => ta σ H fun x H1 => tb σ H1 fun y H2 => r x y H2 fun z H3 => ∃ k, z = .bl k ∧
  (if k = true then tc σ H3 fun u H4 => r' y u H4 fun z2 H5 => ∃ k2, z2 = .bl k2 ∧ (if k2 = true then td σ H5 fun t H6 => r'' u t H6 Q else Q (.bl false) H5) else Q (.bl false) H3)
theorem ch3_reads (so : SOp2 G W r o) (so' : SOp2 G W r' o') (so'' : SOp2 G W r'' o'') {σ : L2.St} {H : Hp} {Q : VK} (q : zE G W (fCh3 o o' o'' fa fb fc fd) σ H Q) : tCh3 r r' r'' (zE G W fa) (zE G W fb) (zE G W fc) (zE G W fd) σ H Q := by
  obtain ⟨F, ρ, δ, μ, rr, w, s, e, p⟩ := q
  refine zstep w s e p fun sa μ1 x F1 ρ1 H1 g1 w1 s1 rx e1 p1 => ?_
  refine zstep w1 s1 e1 p1 fun sb μ2 y F2 ρ2 H2 g2 w2 s2 ry e2 p2 => ?_
  refine so_mid so w2 (rx.mono g2) ry e2 p2 fun v μ3 z F3 ρ3 H3 g3 w3 rz e3 p3 => ?_
  unfold lnk at e3
  split at e3
  · cases rz with
    | d rz =>
      cases rz
      refine ⟨true, rfl, ?_⟩
      rw [if_pos rfl]
      refine zstep w3 (s2.mono g3) e3 p3 fun sc μ4 u F4 ρ4 H4 g4 w4 s4 ru e4 p4 => ?_
      refine so_mid so' w4 (ry.mono (g3.trans g4)) ru e4 p4 fun v2 μ5 z2 F5 ρ5 H5 g5 w5 rz2 e5 p5 => ?_
      unfold lnk at e5
      split at e5
      · cases rz2 with
        | d rz2 =>
          cases rz2
          refine ⟨true, rfl, ?_⟩
          rw [if_pos rfl]
          refine zstep w5 (s4.mono g5) e5 p5 fun sd μ6 t F6 ρ6 H6 g6 w6 s6 rt e6 p6 => ?_
          exact so'' F6 ρ6 μ6 H6 σ u t sc sd rr Q w6 (ru.mono (g5.trans g6)) rt e6 p6
      · cases rz2 with
        | d rz2 =>
          cases rz2
          cases e5
          exact ⟨false, rfl, by rw [if_neg Bool.false_ne_true]; exact p5.ok w5 (.d (.bl false))⟩
      · cases e5
  · cases rz with
    | d rz =>
      cases rz
      cases e3
      exact ⟨false, rfl, by rw [if_neg Bool.false_ne_true]; exact p3.ok w3 (.d (.bl false))⟩
  · cases e3
theorem pe_ch3 {ta tb tc td : TE} (ho : OpR X (compareOp op) r) (ho' : OpR X (compareOp op') r') (ho'' : OpR X (compareOp op'') r'') (ha : PE X a ta) (hb : PE X b tb) (hc : PE X c tc) (hd : PE X d td)
    (hm : lastMarks [op, op', op''] [b, c, d] = false := by with_unfolding_all rfl) : PE X (.Compare a [op, op', op''] [b, c, d] pos) (tCh3 r r' r'' ta tb tc td) := ⟨fun pins s σ H Q I h => by
  refine Compare_chain (thn (ha.run pins s σ H _ I h) fun v s1 ⟨x, H1, I1, r1, q1⟩ => chain_link (thn (hb.run pins s1 σ H1 _ I1 q1) fun u s2 ⟨y, H2, I2, r2, q2⟩ => thn (ho pins s2 σ H2 x y v u _ I2 r1 r2 q2) fun w1 s3 ⟨z, H3, I3, r3, k, e, q3⟩ => ?_)) hm
  subst e
  cases r3
  refine wpAny_truthy_bool ?_
  cases k with
  | false => exact ite_ff ⟨.bl false, H3, I3, rfl, q3⟩
  | true =>
    refine ite_tt (chain_link (thn (hc.run pins s3 σ H3 _ I3 q3) fun u2 s4 ⟨z', H4, I4, r4, q4⟩ => thn (ho' pins s4 σ H4 y z' u u2 _ I4 r2 r4 q4) fun w2 s5 ⟨z2, H5, I5, r5, k2, e2, q5⟩ => ?_))
    subst e2
    cases r5
    refine wpAny_truthy_bool ?_
    cases k2 with
    | false => exact ite_ff ⟨.bl false, H5, I5, rfl, q5⟩
    | true => exact ite_tt (chain_last (thn (hd.run pins s5 σ H5 _ I5 q5) fun u3 s6 ⟨t, H6, I6, r6, q6⟩ => ho'' pins s6 σ H6 z' t u2 u3 Q I6 r4 r6 q6))⟩
theorem pt_ch3 {ta tb tc td : TE} (ho : OpR X (compareOp op) r) (ho' : OpR X (compareOp op') r') (ho'' : OpR X (compareOp op'') r'') (ha : PE X a ta) (hb : PE X b tb) (hc : PE X c tc) (hd : PE X d td)
    (hm : lastMarks [op, op', op''] [b, c, d] = false := by with_unfolding_all rfl) : PT X (.Compare a [op, op', op''] [b, c, d] pos) (tTest (tCh3 r r' r'' ta tb tc td)) := ⟨fun pins s σ H Q I h => by
  refine isTrue_chain (thn (ha.run pins s σ H _ I h) fun v s1 ⟨x, H1, I1, r1, q1⟩ => test_link (thn (hb.run pins s1 σ H1 _ I1 q1) fun u s2 ⟨y, H2, I2, r2, q2⟩ => thn (ho pins s2 σ H2 x y v u _ I2 r1 r2 q2) fun w1 s3 ⟨z, H3, I3, r3, k, e, q3⟩ => ?_)) hm
  subst e
  cases r3
  refine wpAny_truthy_bool ?_
  cases k with
  | false =>
    obtain ⟨k', e', q'⟩ := q3
    cases e'
    exact ite_ff ⟨H3, I3, q'⟩
  | true =>
    refine ite_tt (test_link (thn (hc.run pins s3 σ H3 _ I3 q3) fun u2 s4 ⟨z', H4, I4, r4, q4⟩ => thn (ho' pins s4 σ H4 y z' u u2 _ I4 r2 r4 q4) fun w2 s5 ⟨z2, H5, I5, r5, k2, e2, q5⟩ => ?_))
    subst e2
    cases r5
    refine wpAny_truthy_bool ?_
    cases k2 with
    | false =>
      obtain ⟨k', e', q'⟩ := q5
      cases e'
      exact ite_ff ⟨H5, I5, q'⟩
    | true =>
      refine ite_tt (test_last (thn (hd.run pins s5 σ H5 _ I5 q5) fun u3 s6 ⟨t, H6, I6, r6, q6⟩ => thn (ho'' pins s6 σ H6 z' t u2 u3 _ I6 r4 r6 q6) fun w3 s7 ⟨z3, H7, I7, r7, k3, e3, q7⟩ => ?_))
      subst e3
      cases r7
      exact wpAny_truthy_bool ⟨H7, I7, q7⟩⟩
theorem z_ch3 (ho : OpR X (compareOp op) r) (so : SOp2 G W r o) (ho' : OpR X (compareOp op') r') (so' : SOp2 G W r' o') (ho'' : OpR X (compareOp op'') r'') (so'' : SOp2 G W r'' o'') (ha : PE X a (zE G W fa)) (hb : PE X b (zE G W fb)) (hc : PE X c (zE G W fc)) (hd : PE X d (zE G W fd))
    (hm : lastMarks [op, op', op''] [b, c, d] = false := by with_unfolding_all rfl) : PE X (.Compare a [op, op', op''] [b, c, d] pos) (zE G W (fCh3 o o' o'' fa fb fc fd)) := peImp (pe_ch3 ho ho' ho'' ha hb hc hd hm) fun _ _ _ q => ch3_reads so so' so'' q
theorem zt_ch3 (ho : OpR X (compareOp op) r) (so : SOp2 G W r o) (ho' : OpR X (compareOp op') r') (so' : SOp2 G W r' o') (ho'' : OpR X (compareOp op'') r'') (so'' : SOp2 G W r'' o'') (ha : PE X a (zE G W fa)) (hb : PE X b (zE G W fb)) (hc : PE X c (zE G W fc)) (hd : PE X d (zE G W fd))
    (hm : lastMarks [op, op', op''] [b, c, d] = false := by with_unfolding_all rfl) : PT X (.Compare a [op, op', op''] [b, c, d] pos) (zT G W (fT (fCh3 o o' o'' fa fb fc fd))) := ptImp (pt_ch3 ho ho' ho'' ha hb hc hd hm) fun _ _ _ q => zT_of (fun _ _ _ q => ch3_reads so so' so'' q) q
end
end Z
namespace Z
open PySem PySem.Spec PyProof.Rows L2
section
variable {G : Gx} {X : Cx} {W : WX} {F : Hp} {ρ : List Addr} {μ : Mu} {H : Hp} {a b c e o tg iter elt : Expr} {es : List Expr} {fa fb fo fi fv : Fz Sv} {fr : Fz (List Sv)} {pos p2 p apos cpos : Pos} {x : Str} {id T : String} {body : List Stmt} {t : TG} {g : Tz} {S : Sz} {js : List Nat}
/-! ### what is never reached needs no reading -/
def fStk : Fz Sv := fun _ _ => none
def sStk : Sz := fun _ _ => none
theorem z_stk : PE X e (zE G W fStk) := ⟨fun pins s σ H Q I q => by
  obtain ⟨F, ρ, δ, μ, r, w, s, e, p⟩ := q
  cases e⟩
theorem zs_stk {st : Stmt} : PS X st (zS G W sStk) := ⟨fun pins s σ H D I q => by
  obtain ⟨F, ρ, δ, μ, r, w, s, e, p⟩ := q
  cases e⟩
/-! ### a cell walked while it stays as it is -/
open Classical in
noncomputable def forLC (n : Nat) (all : List Sv) (g : Tz) (S : Sz) : List Sv → Sz
  | [], δ, μ => if μ[n]? = some (.lst all) then some (.nx, δ, μ) else none
  | x :: xs, δ, μ => if μ[n]? = some (.lst all) then (match g x δ with
    | none => none
    | some δ1 => match S δ1 μ with
      | some (.nx, δ2, μ2) => forLC n all g S xs δ2 μ2
      | some (.ct, δ2, μ2) => forLC n all g S xs δ2 μ2
      | some (.bk, δ2, μ2) => some (.nx, δ2, μ2)
      | r => r) else none
noncomputable def sForC (fa : Fz Sv) (g : Tz) (S : Sz) : Sz := fun δ μ => eS (fa δ μ) δ fun v μ => match v with
  | .c n => match μ[n]? with
    | some (.lst xs) => forLC n xs g S xs δ μ
    | _ => none
  | _ => none
theorem walk_cell {n : Nat} {l : Addr} {xs : List Sv} (w : Wf G F ρ μ H) (hr : ρ[n]? = some l) (hx : μ[n]? = some (.lst xs)) (i : Nat) :
    (xs.length ≤ i → (Itl G.K l).stop i H) ∧ ∀ y, xs[i]? = some y → (Itl G.K l).go i H ∧ ∀ x H'', (Itl G.K l).yld i H x H'' → H'' = H ∧ Rs G F ρ x y := by
  obtain ⟨_, vs, h1, h2⟩ := w.cell _ _ _ hr hx
  have r1 : SqL G.K H l vs := SqL.of h1
  have hl := h2.len
  refine ⟨fun hi => ⟨vs, r1, by rw [hl]; exact hi⟩, fun y hy => ?_⟩
  obtain ⟨u, hu, ru⟩ := RsL.get h2 hy
  refine ⟨⟨vs, u, r1, hu⟩, fun x H'' ⟨e1, hx⟩ => ⟨e1, ?_⟩⟩
  have := hx vs r1
  rw [hu] at this; cases this
  exact ru
theorem zs_forC (hK : G.K = X.K) (hp : PassesOwn (model X.prog X.w) X.A X.env X.xe) (hc : X.calm = true) (ha : PE X iter (zE G W fa)) (hg : PG X tg t) (zg : ZG G js t g) (hb : PSs X body (zS G W S)) (hs : ∀ x, foldedSetIterable iter X.env x = pure x := by intro _; rfl) :
    PS X (.For tg iter body [] pos) (zS G W (sForC fa g S)) := psImp (ps_for hp hc (pi_list ha) hg hb hs) fun D σ H q => by
  obtain ⟨F, ρ, δ, μ, r, w, s, e, p⟩ := q
  refine zstepS w s e p fun sv μ1 v F1 ρ1 H1 g1 w1 s1 rv e1 p1 => ?_
  cases sv with
  | d x => cases e1
  | c n =>
    cases rv with
    | c hr =>
    rename_i l
    dsimp only at e1
    split at e1
    case h_2 => cases e1
    rename_i items hx
    refine ⟨l, rfl, ?_, ?_⟩
    · obtain ⟨_, vs, h1, h2⟩ := w1.cell _ _ _ hr hx
      exact ⟨_, by rw [← hK]; exact SqL.of h1⟩
    rw [← hK]
    refine ⟨fun i m σ' H' => m = items.length - i ∧ i ≤ items.length ∧ ∃ F' ρ' δ' μ', Gr F1 F' ρ1 ρ' ∧ Wf G F' ρ' μ' H' ∧ Sl G F' ρ' σ' δ' ∧ forLC n items g S (items.drop i) δ' μ' = some r,
      ⟨items.length, rfl, Nat.zero_le _, F1, ρ1, δ, μ1, Gr.refl _ _, w1, s1, e1⟩, ?_⟩
    rintro i m σ' H' ⟨rfl, hi, F', ρ', δ', μ', g', w', s', e'⟩
    have hr' : ρ'[n]? = some l := g'.at hr
    by_cases hlt : i < items.length
    · have hd : items.drop i = items[i] :: items.drop (i + 1) := List.drop_eq_getElem_cons hlt
      rw [hd] at e'
      unfold forLC at e'
      split at e'
      case isFalse => cases e'
      rename_i hx'
      obtain ⟨go, yl⟩ := (walk_cell w' hr' hx' i).2 items[i] (List.getElem?_eq_getElem hlt)
      refine .inr ⟨go, fun σ2 H2 => ∃ F2 ρ2 δ2 μ2, Gr F1 F2 ρ1 ρ2 ∧ Wf G F2 ρ2 μ2 H2 ∧ Sl G F2 ρ2 σ2 δ2 ∧ forLC n items g S (items.drop (i + 1)) δ2 μ2 = some r, fun σ2 H2 ⟨F2, ρ2, δ2, μ2, g2, w2, s2, e2⟩ => ⟨items.length - (i + 1), by omega, rfl, hlt, F2, ρ2, δ2, μ2, g2, w2, s2, e2⟩, fun x H2 hy => ?_⟩
      obtain ⟨eH, rx⟩ := yl x H2 hy
      subst eH
      cases hg : g items[i] δ' with
      | none => simp [hg] at e'
      | some δ1 =>
        simp only [hg] at e'
        refine zg.ok F' ρ' μ' H2 σ' δ' δ1 x _ _ w' s' rx hg fun σ3 _ s3 => ?_
        cases hS : S δ1 μ' with
        | none => simp [hS] at e'
        | some q =>
          obtain ⟨fl, δ4, μ4⟩ := q
          refine ⟨F', ρ', δ1, μ', _, w', s3, hS, ?_⟩
          cases fl with
          | nx => simp only [hS] at e'; exact fun σ5 F5 ρ5 H5 g5 w5 s5 => ⟨F5, ρ5, δ4, μ4, g'.trans g5, w5, s5, e'⟩
          | ct => simp only [hS] at e'; exact fun σ5 F5 ρ5 H5 g5 w5 s5 => ⟨F5, ρ5, δ4, μ4, g'.trans g5, w5, s5, e'⟩
          | bk => simp only [hS] at e'; cases e'; exact fun σ5 F5 ρ5 H5 g5 w5 s5 => p1 σ5 F5 ρ5 H5 (g'.trans g5) w5 s5
          | rt v => simp only [hS] at e'; cases e'; exact fun a F5 ρ5 H5 g5 w5 s5 => p1 a F5 ρ5 H5 (g'.trans g5) w5 s5
          | ex v => simp only [hS] at e'; cases e'; exact fun c d σ5 F5 ρ5 H5 g5 w5 s5 => p1 c d σ5 F5 ρ5 H5 (g'.trans g5) w5 s5
    · have hi' : items.length ≤ i := by omega
      rw [List.drop_eq_nil_of_le hi'] at e'
      unfold forLC at e'
      split at e'
      case isFalse => cases e'
      rename_i hx'
      refine .inl ⟨(walk_cell w' hr' hx' i).1 hi', ?_⟩
      cases e'
      exact p1 σ' F' ρ' H' g' w' s'
/-! ### comprehensions over a cell -/
open Classical in
noncomputable def lcLC (m : Nat) (all : List Sv) (g : Tz) (c : Fz Bool) (e : Fz Sv) (n : Nat) (δ : Dl) : List Sv → Mu → Option Mu
  | [], μ => if μ[m]? = some (.lst all) then some μ else none
  | x :: xs, μ => if μ[m]? = some (.lst all) then (match g x δ with
    | none => none
    | some δ1 => match c δ1 μ with
      | some (.ok true, μ1) => match e δ1 μ1 with
        | some (.ok y, μ2) => match μ2[n]? with
          | some (.lst acc) => if acc.length < 16777216 then lcLC m all g c e n δ xs (μ2.set n (.lst (acc ++ [y]))) else none
          | _ => none
        | _ => none
      | some (.ok false, μ1) => lcLC m all g c e n δ xs μ1
      | _ => none) else none
noncomputable def fLcK (fa : Fz Sv) (vs : List Nat) (g : Tz) (c : Fz Bool) (e : Fz Sv) : Fz Sv := fun δ μ => (fa δ μ).bind fun v μ => match v with
  | .c m => match μ[m]? with
    | some (.lst xs) => match lcLC m xs g c e μ.length (wipeZ δ vs) xs (μ ++ [.lst []]) with
      | some μ' => some (.ok (.c μ.length), μ')
      | none => none
    | _ => none
  | _ => none
variable {ifs : List Expr} {fc : Fz Bool} {fe : Fz Sv} {scope : Scope} {own : List (Str × Nat)}
theorem lck_reads (hK : G.K = X.K) (zg : ZG G js t g) (hj : ∀ j ∈ js, j ∈ own.map (·.2)) {σ : L2.St} {H : Hp} {Q : VK} (q : zE G W (fLcK fa (own.map (·.2)) g fc fe) σ H Q) : tLc (iList X.K (zE G W fa)) t (zT G W0 fc) (zE G W0 fe) (own.map (·.2)) σ H Q := by
  obtain ⟨F, ρ, δ, μ, r, w, s, e, p⟩ := q
  refine zstep w s e p fun sv μ1 v F1 ρ1 H1 g1 w1 s1 rv e1 p1 => ?_
  cases sv with
  | d x => cases e1
  | c k =>
  cases rv with
  | c hr =>
  rename_i l
  dsimp only at e1
  split at e1
  case h_2 => cases e1
  rename_i items hx
  refine ⟨l, rfl, ?_, ?_⟩
  · obtain ⟨_, vs, h1, h2⟩ := w1.cell _ _ _ hr hx
    exact ⟨_, by rw [← hK]; exact SqL.of h1⟩
  rw [← hK]
  intro Dn hD
  split at e1
  case h_2 => cases e1
  rename_i μe he
  cases e1
  obtain ⟨w2, g2⟩ := w1.newC (p := Dn) hD (o := .lst []) (c := .lst []) ⟨w1.ex.none hD, [], upd_same, .nil⟩
  refine ⟨fun i m H' => m = items.length - i ∧ i ≤ items.length ∧ ∃ F' ρ' μ', Gr F1 F' (ρ1 ++ [Dn]) ρ' ∧ Wf G F' ρ' μ' H' ∧ lcLC k items g fc fe μ1.length (wipeZ δ (own.map (·.2))) (items.drop i) μ' = some μe,
    ⟨items.length, rfl, Nat.zero_le _, F1, ρ1 ++ [Dn], _, Gr.refl _ _, w2, he⟩, ?_⟩
  rintro i m H' ⟨rfl, hi, F', ρ', μ', g', w', e'⟩
  have nD : ρ'[μ1.length]? = some Dn := g'.at (by rw [← w1.len]; simp)
  have hr' : ρ'[k]? = some l := (g2.trans g').at hr
  by_cases hlt : i < items.length
  · have hd : items.drop i = items[i] :: items.drop (i + 1) := List.drop_eq_getElem_cons hlt
    rw [hd] at e'
    unfold lcLC at e'
    split at e'
    case isFalse => cases e'
    rename_i hx'
    obtain ⟨go, yl⟩ := (walk_cell w' hr' hx' i).2 items[i] (List.getElem?_eq_getElem hlt)
    refine .inr ⟨go, fun H2 => ∃ F2 ρ2 μ2, Gr F1 F2 (ρ1 ++ [Dn]) ρ2 ∧ Wf G F2 ρ2 μ2 H2 ∧ lcLC k items g fc fe μ1.length (wipeZ δ (own.map (·.2))) (items.drop (i + 1)) μ2 = some μe, fun H2 ⟨F2, ρ2, μ2, g2, w2, e2⟩ => ⟨items.length - (i + 1), by omega, rfl, hlt, F2, ρ2, μ2, g2, w2, e2⟩, fun x H2 hy => ?_⟩
    obtain ⟨eH, rx⟩ := yl x H2 hy
    subst eH
    cases hg : g items[i] (wipeZ δ (own.map (·.2))) with
    | none => simp [hg] at e'
    | some δ1 =>
      simp only [hg] at e'
      refine zg.ok F' ρ' μ' H2 _ _ δ1 x _ _ w' (((s1.mono g2).mono g').wipe _) rx hg fun σ3 b3 s3 => ⟨wipe_same hj b3, ?_⟩
      cases hc : fc δ1 μ' with
      | none => simp [hc] at e'
      | some q =>
        obtain ⟨b, μ3⟩ := q
        refine ⟨F', ρ', δ1, μ', _, w', s3, hc, ?_⟩
        cases b with
        | error x => simp [hc] at e'
        | ok b =>
          intro bb F3 ρ3 H3 g3 w3 ebb
          subst ebb
          cases bb with
          | false =>
            simp only [hc] at e'
            exact ⟨F3, ρ3, μ3, g'.trans g3, w3, e'⟩
          | true =>
            simp only [hc] at e'
            simp only [if_true]
            cases hf : fe δ1 μ3 with
            | none => simp [hf] at e'
            | some q =>
              obtain ⟨y, μ4⟩ := q
              refine ⟨F3, ρ3, δ1, μ3, _, w3, s3.mono g3, hf, ?_⟩
              cases y with
              | error x => simp [hf] at e'
              | ok y =>
                intro vy F4 ρ4 H4 g4 w4 ry
                simp only [hf] at e'
                have gall : Gr F1 F4 (ρ1 ++ [Dn]) ρ4 := (g'.trans g3).trans g4
                have nD4 : ρ4[μ1.length]? = some Dn := gall.at (by rw [← w1.len]; simp)
                split at e'
                · rename_i acc hacc
                  split at e'
                  · rename_i hlen
                    obtain ⟨h0, vs, h1, h2⟩ := w4.cell _ _ _ nD4 hacc
                    refine ⟨vs, h1, by rw [h2.len]; exact hlen, F4, ρ4, _, gall, w4.setC nD4 h0 (show CellOk G F4 ρ4 _ Dn (.lst (acc ++ [y])) from ⟨h0, vs ++ [vy], upd_same, h2.app (.cons ry .nil)⟩), e'⟩
                  · cases e'
                · cases e'
  · have hi' : items.length ≤ i := by omega
    rw [List.drop_eq_nil_of_le hi'] at e'
    unfold lcLC at e'
    split at e'
    case isFalse => cases e'
    rename_i hx'
    refine .inl ⟨(walk_cell w' hr' hx' i).1 hi', ?_⟩
    cases e'
    exact p1 _ F' ρ' H' (g2.trans g') w' (.c nD)
theorem z_lcK {vs : List Nat} (hK : G.K = X.K) (hc : X.calm = true) (hN : X.N.Nodup) (ha : PE X iter (zE G W fa)) (ok : BlkOk X.N X.env.scope scope own) (hv : own.map (·.2) = vs) (zg : ZG G js t g) (hj : ∀ j ∈ js, j ∈ vs)
    (hg : ∀ (s : Shared) (H : Hp) (C : Addr) (cl : List (Str × Addr)) (fp : List Addr), PG (X.blk s H scope (compEnvC scope cl C X.env) fp) tg t)
    (ht : ∀ (s : Shared) (H : Hp) (C : Addr) (cl : List (Str × Addr)) (fp : List Addr), PTs (X.blk s H scope (compEnvC scope cl C X.env) fp) ifs (zT G W0 fc))
    (he : ∀ (s : Shared) (H : Hp) (C : Addr) (cl : List (Str × Addr)) (fp : List Addr), PE (X.blk s H scope (compEnvC scope cl C X.env) fp) elt (zE G W0 fe)) (hs : ∀ x, foldedSetIterable iter X.env x = pure x := by intro _; rfl) :
    PE X (.ListComp elt [⟨tg, iter, ifs, 0⟩] scope pos) (zE G W (fLcK fa vs g fc fe)) := by
  subst hv
  exact peImp (pe_lc hc hN (pi_list ha) ok hg ht he hs) fun _ _ _ q => lck_reads hK zg hj q
end
end Z
namespace Z
open PySem PySem.Spec PyProof.Rows L2
section
variable {G : Gx} {X : Cx} {W : WX} {F : Hp} {ρ : List Addr} {μ : Mu} {H : Hp} {a b c e f o tg iter elt : Expr} {es : List Expr} {fa fb fo fi fv fk : Fz Sv} {fr : Fz (List Sv)} {pos p2 p p0 apos cpos : Pos} {x : Str} {id T : String} {body : List Stmt} {t : TG} {g : Tz} {S : Sz} {js : List Nat}
/-! ### a cell with the cells in it becomes a tree -/
mutual
def dpz : Nat → Mu → Sv → Option (D × Mu)
  | _, μ, .d x => some (x, μ)
  | 0, _, .c _ => none
  | k + 1, μ, .c n => match μ[n]? with
    | some (.lst xs) => match dpzL k (μ.set n .fz) xs with
      | some (ds, μ') => some (.lst ds, μ')
      | none => none
    | some (.ins c fs) => match dpzF k (μ.set n .fz) fs with
      | some (ds, μ') => some (.ins c ds, μ')
      | none => none
    | _ => none
def dpzL : Nat → Mu → List Sv → Option (List D × Mu)
  | _, μ, [] => some ([], μ)
  | k, μ, x :: r => match dpz k μ x with
    | some (d, μ1) => match dpzL k μ1 r with
      | some (ds, μ2) => some (d :: ds, μ2)
      | none => none
    | none => none
def dpzF : Nat → Mu → List (String × Sv) → Option (List (String × D) × Mu)
  | _, μ, [] => some ([], μ)
  | k, μ, (s, x) :: r => match dpz k μ x with
    | some (d, μ1) => match dpzF k μ1 r with
      | some (ds, μ2) => some ((s, d) :: ds, μ2)
      | none => none
    | none => none
end
mutual
theorem dpz_ok : ∀ (k : Nat) (μ : Mu) (sv : Sv) (d : D) (μ' : Mu) (F : Hp) (v : V), Wf G F ρ μ H → Rs G F ρ v sv → dpz k μ sv = some (d, μ') → ∃ F', Gr F F' ρ ρ ∧ Wf G F' ρ μ' H ∧ Rp G F' v d
  | k, μ, .d x, d, μ', F, v, w, r, h => by
    have h : some (x, μ) = some (d, μ') := by cases k <;> simpa only [dpz] using h
    cases h
    cases r with | d r => exact ⟨F, Gr.refl _ _, w, r⟩
  | 0, μ, .c n, d, μ', F, v, w, r, h => by simp [dpz] at h
  | k + 1, μ, .c n, d, μ', F, v, w, r, h => by
    cases r with
    | c hr =>
      rename_i a
      unfold dpz at h
      split at h
      · rename_i xs hx
        obtain ⟨h0, vs, h1, h2⟩ := w.cell n a _ hr hx
        obtain ⟨w2, g2⟩ := w.frz hr h0 h1
        split at h
        · rename_i ds μ2 hd
          cases h
          obtain ⟨F', g3, w3, r3⟩ := dpzL_ok k _ xs ds _ _ vs w2 (h2.mono g2) hd
          exact ⟨F', g2.trans g3, w3, .lst (SqL.of (g3.f _ _ upd_same)) r3⟩
        · cases h
      · rename_i c fs hx
        obtain ⟨h0, dx, vs, h1, h2⟩ := w.cell n a _ hr hx
        obtain ⟨w2, g2⟩ := w.frz hr h0 h1
        split at h
        · rename_i ds μ2 hd
          cases h
          obtain ⟨F', g3, w3, r3⟩ := dpzF_ok k _ fs ds _ _ vs w2 (h2.mono g2) hd
          exact ⟨F', g2.trans g3, w3, .ins (g3.f _ _ upd_same) r3⟩
        · cases h
      · cases h
theorem dpzL_ok : ∀ (k : Nat) (μ : Mu) (xs : List Sv) (ds : List D) (μ' : Mu) (F : Hp) (vs : List V), Wf G F ρ μ H → RsL G F ρ vs xs → dpzL k μ xs = some (ds, μ') → ∃ F', Gr F F' ρ ρ ∧ Wf G F' ρ μ' H ∧ RpL G F' vs ds
  | k, μ, [], ds, μ', F, vs, w, r, h => by
    have h : some (([] : List D), μ) = some (ds, μ') := by cases k <;> simpa only [dpzL] using h
    cases h
    cases r
    exact ⟨F, Gr.refl _ _, w, .nil⟩
  | k, μ, x :: rest, ds, μ', F, vs, w, r, h => by
    cases r with
    | cons r1 r2 =>
    unfold dpzL at h
    split at h
    · rename_i d μ1 hd
      split at h
      · rename_i ds' μ2 hd2
        cases h
        obtain ⟨F1, g1, w1, q1⟩ := dpz_ok k μ x d μ1 F _ w r1 hd
        obtain ⟨F2, g2, w2, q2⟩ := dpzL_ok k μ1 rest ds' _ F1 _ w1 (r2.mono g1) hd2
        exact ⟨F2, g1.trans g2, w2, .cons (q1.mono g2.f) q2⟩
      · cases h
    · cases h
theorem dpzF_ok : ∀ (k : Nat) (μ : Mu) (xs : List (String × Sv)) (ds : List (String × D)) (μ' : Mu) (F : Hp) (vs : List (Str × V)), Wf G F ρ μ H → RsF G F ρ vs xs → dpzF k μ xs = some (ds, μ') → ∃ F', Gr F F' ρ ρ ∧ Wf G F' ρ μ' H ∧ RpF G F' vs ds
  | k, μ, [], ds, μ', F, vs, w, r, h => by
    have h : some (([] : List (String × D)), μ) = some (ds, μ') := by cases k <;> simpa only [dpzF] using h
    cases h
    cases r
    exact ⟨F, Gr.refl _ _, w, .nil⟩
  | k, μ, (s, x) :: rest, ds, μ', F, vs, w, r, h => by
    cases r with
    | cons r1 r2 =>
    unfold dpzF at h
    split at h
    · rename_i d μ1 hd
      split at h
      · rename_i ds' μ2 hd2
        cases h
        obtain ⟨F1, g1, w1, q1⟩ := dpz_ok k μ x d μ1 F _ w r1 hd
        obtain ⟨F2, g2, w2, q2⟩ := dpzF_ok k μ1 rest ds' _ F1 _ w1 (r2.mono g1) hd2
        exact ⟨F2, g1.trans g2, w2, .cons (q1.mono g2.f) q2⟩
      · cases h
    · cases h
end
/-- slot i is read as a tree from here on -/
def sFzD (i : Nat) (S : Sz) : Sz := fun δ μ => match δ[i]? with
  | some (some v) => match dpz 8 μ v with
    | some (d, μ') => S (δ.set i (some (.d d))) μ'
    | none => none
  | _ => none
theorem Sl.at {σ : L2.St} {δ : Dl} (s : Sl G F ρ σ δ) : ∀ {i : Nat} {y : Sv}, δ[i]? = some (some y) → ∃ v, σ[i]? = some (some v) ∧ Rs G F ρ v y := by
  induction s with
  | nil => intro i y h; simp at h
  | un _ ih =>
    intro i y h
    cases i with
    | zero => simp at h
    | succ i => exact ih (by simpa using h)
  | cons r _ ih =>
    intro i y h
    cases i with
    | zero => simp at h; subst h; exact ⟨_, rfl, r⟩
    | succ i => exact ih (by simpa using h)
theorem fzd_reads {i : Nat} {D : Ends} {σ : L2.St} (q : zS G W (sFzD i S) D σ H) : zS G W S D σ H := by
  obtain ⟨F, ρ, δ, μ, r, w, s, e, p⟩ := q
  unfold sFzD at e
  split at e
  · rename_i v hv
    split at e
    · rename_i d μ' hd
      obtain ⟨u, hu, ru⟩ := s.at hv
      obtain ⟨F', g, w', rp⟩ := dpz_ok 8 μ v d μ' F u w ru hd
      refine ⟨F', ρ, δ.set i (some (.d d)), μ', r, w', ?_, e, p.mono g⟩
      have s2 := (s.mono g).set (.d rp) i
      have e2 : σ.set i (some u) = σ := by
        apply List.ext_getElem?
        intro j
        by_cases hj : i = j
        · subst hj
          have hl := (List.getElem?_eq_some_iff.1 hu).1
          rw [List.getElem?_set_self hl, hu]
        · rw [List.getElem?_set_ne hj]
      rw [e2] at s2
      exact s2
    · cases e
  · cases e
theorem zs_fzd {i : Nat} {ss : List Stmt} (h : PSs X ss (zS G W S)) : PSs X ss (zS G W (sFzD i S)) := ⟨fun pins s σ H D I q => h.run pins s σ H D I (fzd_reads q)⟩
/-! ### a list taken apart -/
def gL (h : List Sv → Dl → Option Dl) : Tz := fun x δ => match x with
  | .d (.lst l) => h (l.map Sv.d) δ
  | _ => none
theorem zg_lst {n : Nat} {t : TGs} {h : List Sv → Dl → Option Dl} (z : ZGs G js t h) (hn : ∀ (l : List Sv) δ δ', h l δ = some δ' → l.length = n) : ZG G js (gLst G.K n t) (gL h) := ⟨fun F ρ μ H σ δ δ' v x Q w s r e k => by
  unfold gL at e
  split at e
  · rename_i l
    cases r with
    | d r =>
      cases r with
      | lst h1 h2 =>
        refine ⟨_, _, rfl, w.ex.l h1, ?_, z.ok w s (RsL.ofD h2) e k⟩
        have := hn _ _ _ e
        rw [h2.len]; simpa using this
  · cases e⟩
/-! ### dicts: setdefault, get -/
def setdO (o k v : Sv) (μ : Mu) : Rz Sv := match o with
  | .c n => match μ[n]? with
    | some (.dct kvs) => match keyOf k with
      | some k => if kvs.length < 16777216 then (match lookK kvs k with
        | some x => some (.ok x, μ)
        | none => some (.ok v, μ.set n (.dct (putS kvs k v)))) else none
      | none => none
    | _ => none
  | _ => none
def isDct (o : Sv) (μ : Mu) : Bool := match o with
  | .c n => match μ[n]? with
    | some (.dct _) => true
    | _ => false
  | _ => false
theorem isDct_at {v : V} {o : Sv} (w : Wf G F ρ μ H) (r : Rs G F ρ v o) (h : isDct o μ = true) : ∃ a, v = .ref a ∧ IsD H a := by
  unfold isDct at h
  split at h
  · split at h
    · rename_i kvs hk
      cases r with
      | c hr =>
        obtain ⟨_, vs, h1, h2⟩ := w.cell _ _ _ hr hk
        exact ⟨_, rfl, .inl ⟨_, .inl h1⟩⟩
    · cases h
  · cases h
def fSetd (fo fk fv : Fz Sv) : Fz Sv := fun δ μ => (fo δ μ).bind fun o μ => if isDct o μ = true then (fk δ μ).bind fun k μ => (fv δ μ).bind fun v μ => setdO o k v μ else none
theorem z_setd (ho : PE X o (zE G W fo)) (he : PE X e (zE G W fk)) (hf : PE X f (zE G W fv)) (m : M2 X o "setdefault" apos e f cpos) : PE X (.Call (.Attribute o "setdefault" apos) [e, f] [] cpos) (zE G W (fSetd fo fk fv)) := peImp (pe_dsetd ho he hf m) fun σ H Q q => by
  obtain ⟨F, ρ, δ, μ, rr, w, s, e, p⟩ := q
  refine zstep w s e p fun so μ1 ov F1 ρ1 H1 g1 w1 s1 ro e1 p1 => ?_
  split at e1
  case isFalse => cases e1
  rename_i hd
  obtain ⟨ad, rfl, hD⟩ := isDct_at w1 ro hd
  refine ⟨ad, rfl, hD, ?_⟩
  refine zstep w1 s1 e1 p1 fun sk μ2 kv F2 ρ2 H2 g2 w2 s2 rk e2 p2 => ?_
  refine zstep w2 s2 e2 p2 fun sv μ3 vv F3 ρ3 H3 g3 w3 s3 rv e3 p3 => ?_
  have ro3 := ro.mono (g2.trans g3)
  have rk3 := rk.mono g3
  unfold setdO at e3
  split at e3
  case h_2 => cases e3
  rename_i n
  cases ro3 with
  | c hr =>
  split at e3
  case h_2 => cases e3
  rename_i kvs hk
  split at e3
  case h_2 => cases e3
  rename_i k hkey
  split at e3
  case isFalse => cases e3
  rename_i hl
  obtain ⟨h0, ws, h1', h2⟩ := w3.cell _ _ _ hr hk
  refine ⟨ws, k, h1', keyOf_at rk3 hkey, by rw [h2.len, szl]; exact hl, fun v hv => ?_, fun hn => ?_⟩
  · cases hlk : lookK kvs k with
    | none => rw [lookK_none h2 hlk] at hv; cases hv
    | some y =>
      rw [hlk] at e3
      cases e3
      obtain ⟨v', hv', r'⟩ := lookK_at h2 hlk
      rw [hv] at hv'; cases hv'
      exact p3.ok w3 r'
  · cases hlk : lookK kvs k with
    | some y =>
      obtain ⟨v', hv', r'⟩ := lookK_at h2 hlk
      rw [hn] at hv'; cases hv'
    | none =>
      rw [hlk] at e3
      cases e3
      exact p3.ok (w3.setC hr h0 (show CellOk G F3 ρ3 _ _ (.dct _) from ⟨h0, _, upd_same, h2.put (k := k) rv⟩)) rv
def getdO (o k v : Sv) (μ : Mu) : Rz Sv := match o with
  | .c n => match μ[n]? with
    | some (.dct kvs) => match keyOf k with
      | some k => some (.ok ((lookK kvs k).getD v), μ)
      | none => none
    | _ => none
  | _ => none
def fGet2 (fo fk fv : Fz Sv) : Fz Sv := fun δ μ => (fo δ μ).bind fun o μ => if isDct o μ = true then (fk δ μ).bind fun k μ => (fv δ μ).bind fun v μ => getdO o k v μ else none
theorem z_get2 (hu : X.A.units + 1 < cLine) (ho : PE X o (zE G W fo)) (he : PE X e (zE G W fk)) (hf : PE X f (zE G W fv)) (m : M2 X o "get" apos e f cpos) : PE X (.Call (.Attribute o "get" apos) [e, f] [] cpos) (zE G W (fGet2 fo fk fv)) := peImp (pe_dget2 hu ho he hf m) fun σ H Q q => by
  obtain ⟨F, ρ, δ, μ, rr, w, s, e, p⟩ := q
  refine zstep w s e p fun so μ1 ov F1 ρ1 H1 g1 w1 s1 ro e1 p1 => ?_
  split at e1
  case isFalse => cases e1
  rename_i hd
  obtain ⟨ad, rfl, hD⟩ := isDct_at w1 ro hd
  refine ⟨ad, rfl, hD, ?_⟩
  refine zstep w1 s1 e1 p1 fun sk μ2 kv F2 ρ2 H2 g2 w2 s2 rk e2 p2 => ?_
  refine zstep w2 s2 e2 p2 fun sv μ3 vv F3 ρ3 H3 g3 w3 s3 rv e3 p3 => ?_
  have ro3 := ro.mono (g2.trans g3)
  have rk3 := rk.mono g3
  unfold getdO at e3
  split at e3
  case h_2 => cases e3
  rename_i n
  cases ro3 with
  | c hr =>
  split at e3
  case h_2 => cases e3
  rename_i kvs hk
  split at e3
  case h_2 => cases e3
  rename_i k hkey
  cases e3
  obtain ⟨h0, ws, h1', h2⟩ := w3.cell _ _ _ hr hk
  cases hlk : lookK kvs k with
  | none =>
    refine ⟨none, ?_, ?_⟩
    · rw [keyOf_at rk3 hkey]
      exact .inl ⟨ws, k, .inl h1', rfl, (lookK_none h2 hlk).symm⟩
    · rw [hlk] at p3
      exact p3.ok w3 rv
  | some y =>
    obtain ⟨v', hv', r'⟩ := lookK_at h2 hlk
    refine ⟨some v', ?_, ?_⟩
    · rw [keyOf_at rk3 hkey]
      exact .inl ⟨ws, k, .inl h1', rfl, hv'.symm⟩
    · rw [hlk] at p3
      exact p3.ok w3 r'
/-! ### built in, over lists -/
def toBs : List Sv → Option (List Bool)
  | [] => some []
  | .d (.bl b) :: r => (toBs r).map fun l => b :: l
  | _ => none
def toIs : List Sv → Option (List Int)
  | [] => some []
  | .d (.int b) :: r => (toIs r).map fun l => b :: l
  | _ => none
theorem toBs_at : ∀ {vs : List V} {xs : List Sv} {bs : List Bool}, RsL G F ρ vs xs → toBs xs = some bs → vs = bs.map V.bl
  | _, _, _, .nil, h => by cases h; rfl
  | _, .d (.bl b) :: r, bs, .cons (.d h1) h2, h => by
    unfold toBs at h
    cases hr : toBs r with
    | none => rw [hr] at h; cases h
    | some l => rw [hr] at h; cases h; cases h1; rw [toBs_at h2 hr]; rfl
theorem toIs_at : ∀ {vs : List V} {xs : List Sv} {bs : List Int}, RsL G F ρ vs xs → toIs xs = some bs → vs = bs.map V.int
  | _, _, _, .nil, h => by cases h; rfl
  | _, .d (.int b) :: r, bs, .cons (.d h1) h2, h => by
    unfold toIs at h
    cases hr : toIs r with
    | none => rw [hr] at h; cases h
    | some l => rw [hr] at h; cases h; cases h1; rw [toIs_at h2 hr]; rfl
def bAll : Opn := fun as μ => match as with
  | [a] => match (lstV μ a).bind toBs with
    | some bs => okz (.bl (bs.all _root_.id)) μ
    | none => none
  | _ => none
def bAny : Opn := fun as μ => match as with
  | [a] => match (lstV μ a).bind toBs with
    | some bs => okz (.bl (bs.any _root_.id)) μ
    | none => none
  | _ => none
def bSum : Opn := fun as μ => match as with
  | [a] => match (lstV μ a).bind toIs with
    | some bs => okz (.int bs.sum) μ
    | none => none
  | _ => none
theorem so_all (hK : G.K = X.K) : SOpn G W (rAll X.K) bAll := by
  intro F ρ μ H σ vs as rr Q w r h p
  unfold bAll at h
  split at h
  · split at h
    · rename_i bs hb
      cases h
      obtain ⟨xs, hx, hb⟩ := Option.bind_eq_some_iff.1 hb
      cases r with
      | cons r t =>
        cases t
        obtain ⟨ax, ws, rfl, h2, h3⟩ := lstV_at w r hx
        exact ⟨ax, bs, rfl, by rw [← hK, ← toBs_at h3 hb]; exact h2, p.ok w (.d (.bl _))⟩
    · cases h
  · cases h
theorem so_any (hK : G.K = X.K) : SOpn G W (rAny X.K) bAny := by
  intro F ρ μ H σ vs as rr Q w r h p
  unfold bAny at h
  split at h
  · split at h
    · rename_i bs hb
      cases h
      obtain ⟨xs, hx, hb⟩ := Option.bind_eq_some_iff.1 hb
      cases r with
      | cons r t =>
        cases t
        obtain ⟨ax, ws, rfl, h2, h3⟩ := lstV_at w r hx
        exact ⟨ax, bs, rfl, by rw [← hK, ← toBs_at h3 hb]; exact h2, p.ok w (.d (.bl _))⟩
    · cases h
  · cases h
theorem so_sum (hK : G.K = X.K) : SOpn G W (rSum X.K) bSum := by
  intro F ρ μ H σ vs as rr Q w r h p
  unfold bSum at h
  split at h
  · split at h
    · rename_i bs hb
      cases h
      obtain ⟨xs, hx, hb⟩ := Option.bind_eq_some_iff.1 hb
      cases r with
      | cons r t =>
        cases t
        obtain ⟨ax, ws, rfl, h2, h3⟩ := lstV_at w r hx
        exact ⟨ax, bs, rfl, by rw [← hK, ← toIs_at h3 hb]; exact h2, p.ok w (.d (.int _))⟩
    · cases h
  · cases h
def bMin3 : Opn := fun as μ => match as with
  | [.d (.int i), .d (.int j), .d (.int k)] => okz (.int (if k < (if j < i then j else i) then k else (if j < i then j else i))) μ
  | _ => none
theorem so_min3 : SOpn G W (rNuC3 nuMin3) bMin3 := by
  intro F ρ μ H σ vs as rr Q w r h p
  unfold bMin3 at h
  split at h
  · rename_i i j k
    cases h
    cases r with | cons r t => cases t with | cons r2 t => cases t with | cons r3 t => cases t; cases r with | d r => cases r; cases r2 with | d r2 => cases r2; cases r3 with | d r3 => cases r3; exact ⟨_, _, _, _, rfl, by
      show ((Option.map _ (some (decide (j < i)))).bind _) = _
      by_cases h1 : j < i
      · simp only [h1, decide_true, Option.map_some, Option.bind_some, if_true]
        show Option.map _ (some (decide (k < j))) = _
        by_cases h2 : k < j <;> simp [h2]
      · simp only [h1, decide_false, Option.map_some, Option.bind_some, if_false, Bool.false_eq_true]
        show Option.map _ (some (decide (k < i))) = _
        by_cases h2 : k < i <;> simp [h2], p.ok w (.d (.int _))⟩
  · cases h
/-- list(range(n)) -/
def rngD (lo : Int) (n : Nat) : List D := (List.range n).map fun i => .int (lo + (i : Nat))
theorem rpl_rng (lo : Int) : ∀ l : List Nat, RpL G F (l.map fun i => V.int (lo + (i : Nat))) (l.map fun i => D.int (lo + (i : Nat)))
  | [] => .nil
  | _ :: r => .cons (.int _) (rpl_rng lo r)
def fLRg (fa : Fz Sv) : Fz Sv := fun δ μ => (fa δ μ).bind fun a μ => match a with
  | .d (.int n) => if -(2 ^ 62) ≤ n ∧ n ≤ 16777216 then okz (.lst (rngD 0 n.toNat)) μ else none
  | _ => none
theorem z_lrg (hc : X.calm = true) (hg : Gl X "list") (hm : X.mg "list" = none) (hg2 : Gl X "range") (hm2 : X.mg "range" = none) (ha : PE X a (zE G W fa)) (na : starEach [.Call (.Name "range" p2) [a] [] p] X.env = (false, eval (.Call (.Name "range" p2) [a] [] p) X.env) :: starEach [] X.env := by rfl) (nb : starEach [a] X.env = (false, eval a X.env) :: starEach [] X.env := by rfl) :
    PE X (.Call (.Name "list" p0) [.Call (.Name "range" p2) [a] [] p] [] pos) (zE G W (fLRg fa)) := peImp (pe_listRg hc hg hm (prg_1 hg2 hm2 ha nb) na) fun σ H Q q => by
  obtain ⟨F, ρ, δ, μ, rr, w, s, e, p⟩ := q
  refine zstep w s e p fun sa μ1 v F1 ρ1 H1 g1 w1 s1 rv e1 p1 => ?_
  split at e1
  · rename_i n
    split at e1
    · rename_i hn
      cases e1
      cases rv with
      | d rv =>
        cases rv
        refine ⟨n, rfl, ⟨by omega, by omega, by omega, by omega, by omega⟩, fun q hq => ?_⟩
        obtain ⟨w2, g2⟩ := w1.newD hq (.lst (rgV 0 n))
        refine p1 _ _ _ _ g2 w2 (.d (.lst (SqL.of upd_same) ?_))
        have : n - 0 = n := by omega
        unfold rgV rngD
        rw [this]
        exact rpl_rng 0 _
    · cases e1
  · cases e1
end
end Z
namespace Z
open PySem PySem.Spec PyProof.Rows L2
/-! ## what a run ends in: the weakest condition, by simp -/
/-- a mark that hangs on what follows: simp leaves what follows alone till it is reached -/
def Ph {β : Type} (_ : β) : Type := Unit
def phm {β : Type} (x : β) : Ph x := ()
def Ev {α : Type} (r : Rz α) (P : Except Exn α → Mu → Prop) (_ : Ph P := phm P) : Prop := ∃ e μ, r = some (e, μ) ∧ P e μ
def Es (r : Sr) (P : Fl → Dl → Mu → Prop) (_ : Ph P := phm P) : Prop := ∃ f δ μ, r = some (f, δ, μ) ∧ P f δ μ
theorem Ev_ext {α : Type} {r : Rz α} {P Q : Except Exn α → Mu → Prop} (h : ∀ e μ, P e μ = Q e μ) : Ev r P = Ev r Q := by
  have : P = Q := by funext e μ; exact h e μ
  subst this; rfl
theorem Es_ext {r : Sr} {P Q : Fl → Dl → Mu → Prop} (h : ∀ f δ μ, P f δ μ = Q f δ μ) : Es r P = Es r Q := by
  have : P = Q := by funext e δ μ; exact h e δ μ
  subst this; rfl
theorem Ev_congr {α : Type} {r r' : Rz α} {P : Except Exn α → Mu → Prop} (h : r = r') : Ev r P = Ev r' P := by rw [h]
theorem Es_congr {r r' : Sr} {P : Fl → Dl → Mu → Prop} (h : r = r') : Es r P = Es r' P := by rw [h]
theorem Ev.imp {α : Type} {r : Rz α} {P Q : Except Exn α → Mu → Prop} (h : Ev r P) (k : ∀ e μ, P e μ → Q e μ) : Ev r Q := let ⟨e, μ, a, b⟩ := h; ⟨e, μ, a, k e μ b⟩
theorem Es.imp {r : Sr} {P Q : Fl → Dl → Mu → Prop} (h : Es r P) (k : ∀ f δ μ, P f δ μ → Q f δ μ) : Es r Q := let ⟨e, δ, μ, a, b⟩ := h; ⟨e, δ, μ, a, k e δ μ b⟩
def okc {α : Type} (e : Except Exn α) (k : α → Prop) (x : Exn → Prop) : Prop := match e with
  | .ok a => k a
  | .error y => x y
@[simp ↓, simp] theorem okc_ok {α : Type} (a : α) (k : α → Prop) (x : Exn → Prop) : okc (.ok a) k x = k a := rfl
@[simp ↓, simp] theorem okc_err {α : Type} (a : Exn) (k : α → Prop) (x : Exn → Prop) : okc (.error a) k x = x a := rfl
def nxc (f : Fl) (k : Prop) (x : Fl → Prop) : Prop := match f with
  | .nx => k
  | y => x y
@[simp ↓, simp] theorem nxc_nx (k : Prop) (x : Fl → Prop) : nxc .nx k x = k := rfl
@[simp ↓, simp] theorem nxc_rt (k : Prop) (x : Fl → Prop) (v : Sv) : nxc (.rt v) k x = x (.rt v) := rfl
@[simp ↓, simp] theorem nxc_bk (k : Prop) (x : Fl → Prop) : nxc .bk k x = x .bk := rfl
@[simp ↓, simp] theorem nxc_ct (k : Prop) (x : Fl → Prop) : nxc .ct k x = x .ct := rfl
@[simp ↓, simp] theorem nxc_ex (k : Prop) (x : Fl → Prop) (e : Exn) : nxc (.ex e) k x = x (.ex e) := rfl
@[simp] theorem Ev_some {α : Type} (e : Except Exn α) (μ : Mu) (P : Except Exn α → Mu → Prop) : Ev (some (e, μ)) P = P e μ := by
  apply propext; constructor
  · rintro ⟨e1, μ1, h, p⟩; cases h; exact p
  · exact fun p => ⟨e, μ, rfl, p⟩
@[simp] theorem Ev_okz (d : D) (μ : Mu) (P : Except Exn Sv → Mu → Prop) : Ev (okz d μ) P = P (.ok (.d d)) μ := Ev_some ..
@[simp] theorem Ev_none {α : Type} (P : Except Exn α → Mu → Prop) : Ev none P = False := by
  apply propext; constructor
  · rintro ⟨e1, μ1, h, p⟩; cases h
  · exact False.elim
theorem Ev_bind {α β : Type} (r : Rz α) (k : α → Mu → Rz β) (P : Except Exn β → Mu → Prop) : Ev (r.bind k) P = Ev r (fun e μ => okc e (fun a => Ev (k a μ) P) (fun x => P (.error x) μ)) := by
  apply propext; constructor
  · rintro ⟨e1, μ1, h, p⟩
    match r, h with
    | some (.ok a, μ), h => exact ⟨_, _, rfl, e1, μ1, h, p⟩
    | some (.error a, μ), h => cases h; exact ⟨_, _, rfl, p⟩
  · rintro ⟨e1, μ1, rfl, p⟩
    match e1, p with
    | .ok a, p => exact p
    | .error a, p => exact ⟨_, _, rfl, p⟩
@[simp] theorem Ev_ite {α : Type} (c : Prop) [Decidable c] (a b : Rz α) (P : Except Exn α → Mu → Prop) : Ev (if c then a else b) P = if c then Ev a P else Ev b P := by split <;> rfl
@[simp] theorem Es_ite (c : Prop) [Decidable c] (a b : Sr) (P : Fl → Dl → Mu → Prop) : Es (if c then a else b) P = if c then Es a P else Es b P := by split <;> rfl
@[simp] theorem Es_some (f : Fl) (δ : Dl) (μ : Mu) (P : Fl → Dl → Mu → Prop) : Es (some (f, δ, μ)) P = P f δ μ := by
  apply propext; constructor
  · rintro ⟨e1, δ1, μ1, h, p⟩; cases h; exact p
  · exact fun p => ⟨f, δ, μ, rfl, p⟩
@[simp] theorem Es_none (P : Fl → Dl → Mu → Prop) : Es none P = False := by
  apply propext; constructor
  · rintro ⟨e1, δ1, μ1, h, p⟩; cases h
  · exact False.elim
theorem Es_eS {α : Type} (r : Rz α) (δ : Dl) (k : α → Mu → Sr) (P : Fl → Dl → Mu → Prop) : Es (eS r δ k) P = Ev r (fun e μ => okc e (fun a => Es (k a μ) P) (fun x => P (.ex x) δ μ)) := by
  apply propext; constructor
  · rintro ⟨e1, δ1, μ1, h, p⟩
    match r, h with
    | some (.ok a, μ), h => exact ⟨_, _, rfl, e1, δ1, μ1, h, p⟩
    | some (.error a, μ), h => cases h; exact ⟨_, _, rfl, p⟩
  · rintro ⟨e1, μ1, rfl, p⟩
    match e1, p with
    | .ok a, p => exact p
    | .error a, p => exact ⟨_, _, _, rfl, p⟩
@[simp] theorem Es_seq (S T : Sz) (δ : Dl) (μ : Mu) (P : Fl → Dl → Mu → Prop) : Es (sSeq S T δ μ) P = Es (S δ μ) (fun f δ μ => nxc f (Es (T δ μ) P) (fun f => P f δ μ)) := by
  show Es (sThen (S δ μ) T) P = _
  apply propext; constructor
  · rintro ⟨e1, δ1, μ1, h, p⟩
    match e : S δ μ, h with
    | some (.nx, δ2, μ2), h => exact ⟨_, _, _, rfl, _, _, _, h, p⟩
    | some (.rt v, δ2, μ2), h => cases h; exact ⟨_, _, _, rfl, p⟩
    | some (.bk, δ2, μ2), h => cases h; exact ⟨_, _, _, rfl, p⟩
    | some (.ct, δ2, μ2), h => cases h; exact ⟨_, _, _, rfl, p⟩
    | some (.ex v, δ2, μ2), h => cases h; exact ⟨_, _, _, rfl, p⟩
    | none, h => cases h
  · rintro ⟨e1, δ1, μ1, h, p⟩
    rw [h]
    match e1, p with
    | .nx, p => exact p
    | .rt v, p => exact ⟨_, _, _, rfl, p⟩
    | .bk, p => exact ⟨_, _, _, rfl, p⟩
    | .ct, p => exact ⟨_, _, _, rfl, p⟩
    | .ex v, p => exact ⟨_, _, _, rfl, p⟩
section
variable {P : Except Exn Sv → Mu → Prop} {R : Fl → Dl → Mu → Prop} {δ : Dl} {μ : Mu}
@[simp] theorem fVar_0 (x : Sv) : fVar 0 (some x :: δ) μ = some (.ok x, μ) := rfl
@[simp] theorem fVar_s (i : Nat) (o : Option Sv) : fVar (i + 1) (o :: δ) μ = fVar i δ μ := rfl
@[simp] theorem fC_eq (d : D) : fC d δ μ = okz d μ := rfl
@[simp] theorem Ev_op2 (o : Op2) (fa fb : Fz Sv) : Ev (fOp2 o fa fb δ μ) P = Ev (fa δ μ) (fun e μ => okc e (fun a => Ev (fb δ μ) (fun e μ => okc e (fun b => Ev (o a b μ) P) (fun x => P (.error x) μ))) (fun x => P (.error x) μ)) := by
  show Ev (Rz.bind _ _) _ = _
  rw [Ev_bind]; refine Ev_ext fun e μ => ?_; cases e <;> simp [okc, Ev_bind]
@[simp] theorem Ev_op1 (o : Op1) (fa : Fz Sv) : Ev (fOp1 o fa δ μ) P = Ev (fa δ μ) (fun e μ => okc e (fun a => Ev (o a μ) P) (fun x => P (.error x) μ)) := Ev_bind ..
@[simp] theorem Ev_nil {P : Except Exn (List Sv) → Mu → Prop} : Ev (fNil δ μ) P = P (.ok []) μ := Ev_some ..
@[simp] theorem Ev_cons (fa : Fz Sv) (fr : Fz (List Sv)) {P : Except Exn (List Sv) → Mu → Prop} : Ev (fCons fa fr δ μ) P = Ev (fa δ μ) (fun e μ => okc e (fun a => Ev (fr δ μ) (fun e μ => okc e (fun r => P (.ok (a :: r)) μ) (fun x => P (.error x) μ))) (fun x => P (.error x) μ)) := by
  show Ev (Rz.bind _ _) _ = _
  rw [Ev_bind]; refine Ev_ext fun e μ => ?_; cases e <;> simp [okc, Ev_bind]
  refine Iff.of_eq (Ev_ext fun e μ => ?_); cases e <;> simp
@[simp] theorem Ev_opn (o : Opn) (fa : Fz (List Sv)) : Ev (fOpn o fa δ μ) P = Ev (fa δ μ) (fun e μ => okc e (fun a => Ev (o a μ) P) (fun x => P (.error x) μ)) := Ev_bind ..
@[simp] theorem Ev_call (fn : Fn) (ds : List D) (fa : Fz (List Sv)) : Ev (fCall fn ds fa δ μ) P = Ev (fa δ μ) (fun e μ => okc e (fun a => Ev (fn (a ++ ds.map Sv.d) μ) P) (fun x => P (.error x) μ)) := Ev_bind ..
def blc (v : Sv) (k : Bool → Prop) (_ : Ph k := phm k) : Prop := match v with
  | .d (.bl b) => k b
  | _ => False
@[simp ↓, simp] theorem blc_bl (b : Bool) (k : Bool → Prop) : blc (.d (.bl b)) k = k b := rfl
@[simp] theorem Ev_T (fa : Fz Sv) {P : Except Exn Bool → Mu → Prop} : Ev (fT fa δ μ) P = Ev (fa δ μ) (fun e μ => okc e (fun a => blc a fun b => P (.ok b) μ) (fun x => P (.error x) μ)) := by
  show Ev (Rz.bind _ _) _ = _
  rw [Ev_bind]; refine Ev_ext fun e μ => ?_; cases e
  · simp
  · rename_i a
    simp only [okc_ok]
    match a with
    | .d (.bl b) => simp
    | .d .non => simp [blc]
    | .d (.int _) => simp [blc]
    | .d (.str _) => simp [blc]
    | .d (.lst _) => simp [blc]
    | .d (.tup _) => simp [blc]
    | .d (.ins _ _) => simp [blc]
    | .d (.exc _ _) => simp [blc]
    | .c _ => simp [blc]
@[simp] theorem Ev_and (fa fb : Fz Bool) {P : Except Exn Bool → Mu → Prop} : Ev (fAnd fa fb δ μ) P = Ev (fa δ μ) (fun e μ => okc e (fun a => if a = true then Ev (fb δ μ) P else P (.ok false) μ) (fun x => P (.error x) μ)) := by
  show Ev (Rz.bind _ _) _ = _
  rw [Ev_bind]; refine Ev_ext fun e μ => ?_; cases e <;> simp
@[simp] theorem Ev_or (fa fb : Fz Bool) {P : Except Exn Bool → Mu → Prop} : Ev (fOr fa fb δ μ) P = Ev (fa δ μ) (fun e μ => okc e (fun a => if a = true then P (.ok true) μ else Ev (fb δ μ) P) (fun x => P (.error x) μ)) := by
  show Ev (Rz.bind _ _) _ = _
  rw [Ev_bind]; refine Ev_ext fun e μ => ?_; cases e <;> simp
@[simp] theorem Ev_not (fa : Fz Bool) {P : Except Exn Bool → Mu → Prop} : Ev (fNot fa δ μ) P = Ev (fa δ μ) (fun e μ => okc e (fun a => P (.ok (!a)) μ) (fun x => P (.error x) μ)) := by
  show Ev (Rz.bind _ _) _ = _
  rw [Ev_bind]; refine Ev_ext fun e μ => ?_; cases e <;> simp
@[simp] theorem Ev_if (fc : Fz Bool) (fa fb : Fz Sv) : Ev (fIf fc fa fb δ μ) P = Ev (fc δ μ) (fun e μ => okc e (fun a => if a = true then Ev (fa δ μ) P else Ev (fb δ μ) P) (fun x => P (.error x) μ)) := by
  show Ev (Rz.bind _ _) _ = _
  rw [Ev_bind]; refine Ev_ext fun e μ => ?_; cases e <;> simp
@[simp] theorem Ev_andV (fa fb : Fz Sv) : Ev (fAndV fa fb δ μ) P = Ev (fa δ μ) (fun e μ => okc e (fun a => blc a fun b => if b = true then Ev (fb δ μ) P else P (.ok (.d (.bl false))) μ) (fun x => P (.error x) μ)) := by
  show Ev (Rz.bind _ _) _ = _
  rw [Ev_bind]; refine Ev_ext fun e μ => ?_; cases e
  · rfl
  · rename_i a; simp only [okc_ok]
    match a with
    | .d (.bl true) => simp
    | .d (.bl false) => simp
    | .d .non => simp [blc]
    | .d (.int _) => simp [blc]
    | .d (.str _) => simp [blc]
    | .d (.lst _) => simp [blc]
    | .d (.tup _) => simp [blc]
    | .d (.ins _ _) => simp [blc]
    | .d (.exc _ _) => simp [blc]
    | .c _ => simp [blc]
@[simp] theorem Ev_orV (fa fb : Fz Sv) : Ev (fOrV fa fb δ μ) P = Ev (fa δ μ) (fun e μ => okc e (fun a => blc a fun b => if b = true then P (.ok (.d (.bl true))) μ else Ev (fb δ μ) P) (fun x => P (.error x) μ)) := by
  show Ev (Rz.bind _ _) _ = _
  rw [Ev_bind]; refine Ev_ext fun e μ => ?_; cases e
  · rfl
  · rename_i a; simp only [okc_ok]
    match a with
    | .d (.bl true) => simp
    | .d (.bl false) => simp
    | .d .non => simp [blc]
    | .d (.int _) => simp [blc]
    | .d (.str _) => simp [blc]
    | .d (.lst _) => simp [blc]
    | .d (.tup _) => simp [blc]
    | .d (.ins _ _) => simp [blc]
    | .d (.exc _ _) => simp [blc]
    | .c _ => simp [blc]
@[simp] theorem Ev_notV (fa : Fz Sv) : Ev (fNotV fa δ μ) P = Ev (fa δ μ) (fun e μ => okc e (fun a => blc a fun b => P (.ok (.d (.bl (!b)))) μ) (fun x => P (.error x) μ)) := by
  show Ev (Rz.bind _ _) _ = _
  rw [Ev_bind]; refine Ev_ext fun e μ => ?_; cases e
  · rfl
  · rename_i a; simp only [okc_ok]
    match a with
    | .d (.bl true) => simp
    | .d (.bl false) => simp
    | .d .non => simp [blc]
    | .d (.int _) => simp [blc]
    | .d (.str _) => simp [blc]
    | .d (.lst _) => simp [blc]
    | .d (.tup _) => simp [blc]
    | .d (.ins _ _) => simp [blc]
    | .d (.exc _ _) => simp [blc]
    | .c _ => simp [blc]
@[simp] theorem fYes_eq : fYes δ μ = some (.ok true, μ) := rfl
/- statements -/
@[simp] theorem sNil_eq : sNil δ μ = some (.nx, δ, μ) := rfl
@[simp] theorem sBrk_eq : sBrk δ μ = some (.bk, δ, μ) := rfl
@[simp] theorem sCnt_eq : sCnt δ μ = some (.ct, δ, μ) := rfl
@[simp] theorem sRetN_eq : sRetN δ μ = some (.rt (.d .non), δ, μ) := rfl
@[simp] theorem Es_set (i : Nat) (f : Fz Sv) : Es (sSet i f δ μ) R = Ev (f δ μ) (fun e μ => okc e (fun a => R .nx (δ.set i (some a)) μ) (fun x => R (.ex x) δ μ)) := by
  show Es (eS _ _ _) _ = _
  rw [Es_eS]; refine Ev_ext fun e μ => ?_; cases e <;> simp
@[simp] theorem Es_ex (f : Fz Sv) : Es (sEx f δ μ) R = Ev (f δ μ) (fun e μ => okc e (fun a => R .nx δ μ) (fun x => R (.ex x) δ μ)) := by
  show Es (eS _ _ _) _ = _
  rw [Es_eS]; refine Ev_ext fun e μ => ?_; cases e <;> simp
@[simp] theorem Es_ret (f : Fz Sv) : Es (sRet f δ μ) R = Ev (f δ μ) (fun e μ => okc e (fun a => R (.rt a) δ μ) (fun x => R (.ex x) δ μ)) := by
  show Es (eS _ _ _) _ = _
  rw [Es_eS]; refine Ev_ext fun e μ => ?_; cases e <;> simp
@[simp] theorem Es_if (c : Fz Bool) (S T : Sz) : Es (sIf c S T δ μ) R = Ev (c δ μ) (fun e μ => okc e (fun b => if b = true then Es (S δ μ) R else Es (T δ μ) R) (fun x => R (.ex x) δ μ)) := by
  show Es (eS _ _ _) _ = _
  rw [Es_eS]; refine Ev_ext fun e μ => ?_; cases e <;> simp
@[simp] theorem Es_for (fi : Fz (List Sv)) (g : Tz) (S : Sz) : Es (sFor fi g S δ μ) R = Ev (fi δ μ) (fun e μ => okc e (fun items => Es (forL g S items δ μ) R) (fun x => R (.ex x) δ μ)) := by
  show Es (eS _ _ _) _ = _
  rw [Es_eS]
@[simp] theorem Es_put (fo fi fv : Fz Sv) : Es (sPut fo fi fv δ μ) R = Ev (fv δ μ) (fun e μ => okc e (fun v => Ev (fo δ μ) (fun e μ => okc e (fun o => Ev (fi δ μ) (fun e μ => okc e (fun i => Es (setAt o i v δ μ) R) (fun x => R (.ex x) δ μ))) (fun x => R (.ex x) δ μ))) (fun x => R (.ex x) δ μ)) := by
  show Es (eS _ _ _) _ = _
  rw [Es_eS]; refine Ev_ext fun e μ => ?_; cases e <;> simp only [okc_ok, okc_err]
  rw [Es_eS]; refine Ev_ext fun e μ => ?_; cases e <;> simp only [okc_ok, okc_err]
  rw [Es_eS]
def someD (o : Option Dl) (k : Dl → Prop) (_ : Ph k := phm k) : Prop := match o with
  | some δ => k δ
  | none => False
@[simp ↓, simp] theorem someD_s (δ : Dl) (k : Dl → Prop) : someD (some δ) k = k δ := rfl
@[simp] theorem Es_asg (g : Tz) (f : Fz Sv) : Es (sAsg g f δ μ) R = Ev (f δ μ) (fun e μ => okc e (fun a => someD (g a δ) fun δ' => R .nx δ' μ) (fun x => R (.ex x) δ μ)) := by
  show Es (eS _ _ _) _ = _
  rw [Es_eS]; refine Ev_ext fun e μ => ?_; cases e <;> simp only [okc_ok, okc_err]
  rename_i a; cases g a δ <;> simp [someD]
@[simp] theorem gN_eq (i : Nat) (x : Sv) : gN i x δ = some (δ.set i (some x)) := rfl
@[simp] theorem gT_eq (h : List Sv → Dl → Option Dl) (l : List D) : gT h (.d (.tup l)) δ = h (l.map Sv.d) δ := rfl
@[simp] theorem gE_eq : gE [] δ = some δ := rfl
@[simp] theorem gC_eq (g : Tz) (h : List Sv → Dl → Option Dl) (x : Sv) (r : List Sv) : gC g h (x :: r) δ = (g x δ).bind (h r) := rfl
def two (l : List Sv) (k : Sv → Sv → Prop) (_ : Ph k := phm k) : Prop := match l with
  | [a, b] => k a b
  | _ => False
@[simp ↓, simp] theorem two_eq (a b : Sv) (k : Sv → Sv → Prop) : two [a, b] k = k a b := rfl
@[simp] theorem Es_par (i j : Nat) (fr : Fz (List Sv)) : Es (sPar i j fr δ μ) R = Ev (fr δ μ) (fun e μ => okc e (fun l => two l fun v w => R .nx ((δ.set i (some v)).set j (some w)) μ) (fun x => R (.ex x) δ μ)) := by
  show Es (eS _ _ _) _ = _
  rw [Es_eS]; refine Ev_ext fun e μ => ?_; cases e <;> simp only [okc_ok, okc_err]
  rename_i l
  match l with
  | [] => simp [two]
  | [a] => simp [two]
  | [a, b] => simp
  | a :: b :: c :: r => simp [two]
end
/-! ### loops -/
theorem Es_forL {g : Tz} {S : Sz} {R : Fl → Dl → Mu → Prop} (I : Nat → Dl → Mu → Prop) : ∀ (xs : List Sv) (j : Nat) (δ : Dl) (μ : Mu), I j δ μ →
    (∀ (i : Nat) (x : Sv) (δ : Dl) (μ : Mu), xs[i]? = some x → I (j + i) δ μ → someD (g x δ) fun δ1 => Es (S δ1 μ) fun f δ2 μ2 => match f with
      | .nx => I (j + i + 1) δ2 μ2
      | .ct => I (j + i + 1) δ2 μ2
      | .bk => R .nx δ2 μ2
      | f => R f δ2 μ2) →
    (∀ δ μ, I (j + xs.length) δ μ → R .nx δ μ) → Es (forL g S xs δ μ) R
  | [], j, δ, μ, h0, _, he => by
    show Es (some (.nx, δ, μ)) R
    rw [Es_some]; exact he δ μ h0
  | x :: xs, j, δ, μ, h0, hs, he => by
    have h := hs 0 x δ μ rfl h0
    show Es (match g x δ with
      | none => none
      | some δ1 => match S δ1 μ with
        | some (.nx, δ2, μ2) => forL g S xs δ2 μ2
        | some (.ct, δ2, μ2) => forL g S xs δ2 μ2
        | some (.bk, δ2, μ2) => some (.nx, δ2, μ2)
        | r => r) R
    cases hg : g x δ with
    | none => rw [hg] at h; exact h.elim
    | some δ1 =>
      rw [hg] at h
      simp only [someD_s] at h
      obtain ⟨f, δ2, μ2, e, p⟩ := h
      simp only [e]
      have st : ∀ (i : Nat) (y : Sv) (δ : Dl) (μ : Mu), xs[i]? = some y → I (j + 1 + i) δ μ → someD (g y δ) fun δ1 => Es (S δ1 μ) fun f δ2 μ2 => match f with
          | .nx => I (j + 1 + i + 1) δ2 μ2
          | .ct => I (j + 1 + i + 1) δ2 μ2
          | .bk => R .nx δ2 μ2
          | f => R f δ2 μ2 := by
        intro i y δ μ e1 h1
        have e3 : j + 1 + i = j + (i + 1) := by omega
        rw [e3] at h1 ⊢
        exact hs (i + 1) y δ μ e1 h1
      have en : ∀ δ μ, I (j + 1 + xs.length) δ μ → R .nx δ μ := fun δ μ h => he δ μ (by
        have e3 : j + (x :: xs).length = j + 1 + xs.length := by simp only [List.length_cons]; omega
        rw [e3]; exact h)
      cases f with
      | nx => exact Es_forL I xs (j + 1) δ2 μ2 p st en
      | ct => exact Es_forL I xs (j + 1) δ2 μ2 p st en
      | bk => rw [Es_some]; exact p
      | rt v => rw [Es_some]; exact p
      | ex v => rw [Es_some]; exact p
theorem Es_whileN {c : Fz Bool} {S : Sz} {R : Fl → Dl → Mu → Prop} (I : Nat → Dl → Mu → Prop)
    (hs : ∀ n δ μ, I n δ μ → Ev (c δ μ) fun e μ => okc e (fun b => if b = true then Es (S δ μ) (fun f δ2 μ2 => match f with
      | .nx => ∃ m, m < n ∧ I m δ2 μ2
      | .ct => ∃ m, m < n ∧ I m δ2 μ2
      | .bk => R .nx δ2 μ2
      | f => R f δ2 μ2) else R .nx δ μ) (fun x => R (.ex x) δ μ)) :
    ∀ n δ μ, I n δ μ → ∃ k r, whileN c S k δ μ = some r ∧ R r.1 r.2.1 r.2.2 := by
  intro n
  induction n using Nat.strongRecOn with
  | _ n ih =>
    intro δ μ h
    obtain ⟨e, μ1, e1, p⟩ := hs n δ μ h
    cases e with
    | error x => exact ⟨1, (.ex x, δ, μ1), by simp [whileN, e1], p⟩
    | ok b =>
      cases b with
      | false => exact ⟨1, (.nx, δ, μ1), by simp [whileN, e1], by simpa using p⟩
      | true =>
        simp only [okc_ok, if_true] at p
        obtain ⟨f, δ2, μ2, e2, q⟩ := p
        cases f with
        | nx =>
          obtain ⟨m, hm, i⟩ := q
          obtain ⟨k, r, e3, rr⟩ := ih m hm δ2 μ2 i
          exact ⟨k + 1, r, by simp [whileN, e1, e2, e3], rr⟩
        | ct =>
          obtain ⟨m, hm, i⟩ := q
          obtain ⟨k, r, e3, rr⟩ := ih m hm δ2 μ2 i
          exact ⟨k + 1, r, by simp [whileN, e1, e2, e3], rr⟩
        | bk => exact ⟨1, (.nx, δ2, μ2), by simp [whileN, e1, e2], q⟩
        | rt v => exact ⟨1, (.rt v, δ2, μ2), by simp [whileN, e1, e2], q⟩
        | ex v => exact ⟨1, (.ex v, δ2, μ2), by simp [whileN, e1, e2], q⟩
theorem Es_while {c : Fz Bool} {S : Sz} {R : Fl → Dl → Mu → Prop} {δ : Dl} {μ : Mu} (I : Nat → Dl → Mu → Prop) (n : Nat) (h0 : I n δ μ)
    (hs : ∀ n δ μ, I n δ μ → Ev (c δ μ) fun e μ => okc e (fun b => if b = true then Es (S δ μ) (fun f δ2 μ2 => match f with
      | .nx => ∃ m, m < n ∧ I m δ2 μ2
      | .ct => ∃ m, m < n ∧ I m δ2 μ2
      | .bk => R .nx δ2 μ2
      | f => R f δ2 μ2) else R .nx δ μ) (fun x => R (.ex x) δ μ)) : Es (sWhile c S δ μ) R := by
  obtain ⟨k, r, e, p⟩ := Es_whileN I hs n δ μ h0
  exact ⟨r.1, r.2.1, r.2.2, sWhile_of e, p⟩
end Z
namespace Z
open PySem PySem.Spec PyProof.Rows L2
theorem toDs_ds {xs : List Sv} {ds : List D} (h : toDs xs = some ds) : xs = ds.map Sv.d := by
  induction xs generalizing ds with
  | nil => cases h; rfl
  | cons x r ih =>
    cases x with
    | c n => cases h
    | d x =>
      cases e : toDs r with
      | none => simp [toDs, e] at h
      | some l => simp [toDs, e] at h; subst h; simp [ih e]
section
variable {P : Except Exn Sv → Mu → Prop} {R : Fl → Dl → Mu → Prop} {δ : Dl} {μ : Mu}
@[simp] theorem ifF (c p : Prop) [Decidable c] : (if c then p else False) = (c ∧ p) := by split <;> simp_all
/- arithmetic -/
@[simp] theorem oAdd_ii (i j : Int) : oAdd (.d (.int i)) (.d (.int j)) μ = okz (.int (i + j)) μ := rfl
@[simp] theorem oAdd_ib (i : Int) (k : Bool) : oAdd (.d (.int i)) (.d (.bl k)) μ = okz (.int (i + b2i k)) μ := rfl
@[simp] theorem oAdd_ss (a b : List Nat) : oAdd (.d (.str a)) (.d (.str b)) μ = if a.length + b.length ≤ 16777216 then okz (.str (a ++ b)) μ else none := rfl
@[simp] theorem oAdd_tt (a b : List D) : oAdd (.d (.tup a)) (.d (.tup b)) μ = if a = [] then none else if a.length + b.length ≤ 16777216 then okz (.tup (a ++ b)) μ else none := rfl
@[simp] theorem oAdd_ll (a b : List D) : oAdd (.d (.lst a)) (.d (.lst b)) μ = if a.length + b.length ≤ 16777216 then okz (.lst (a ++ b)) μ else none := by
  show (match catL μ (.d (.lst a)) (.d (.lst b)) with | some l => if l.length ≤ 16777216 then okz (.lst l) μ else none | none => none) = _
  have : catL μ (.d (.lst a)) (.d (.lst b)) = some (a ++ b) := by
    show toDs (a.map Sv.d ++ b.map Sv.d) = _
    rw [← List.map_append, toDs_map]
  rw [this]; simp
@[simp] theorem oSub_ii (i j : Int) : oSub (.d (.int i)) (.d (.int j)) μ = okz (.int (i - j)) μ := rfl
@[simp] theorem oDiv_ii (i j : Int) : oDiv (.d (.int i)) (.d (.int j)) μ = if 0 < j ∧ j < 1073741824 then okz (.int (i / j)) μ else none := by simp [oDiv, oII]
@[simp] theorem oMod_ii (i j : Int) : oMod (.d (.int i)) (.d (.int j)) μ = if 0 < j then okz (.int (i % j)) μ else none := by simp [oMod, oII]
@[simp] theorem oPow_ii (i j : Int) : oPow (.d (.int i)) (.d (.int j)) μ = if 0 ≤ j ∧ j ≤ 1000000 ∧ i.natAbs < 2 ^ 64 then okz (.int (i ^ j.toNat)) μ else none := by simp [oPow, oII]
theorem oMulI_ii (i j : Int) (h : (-(2 ^ 64) < i ∧ i < 2 ^ 64) ∨ (-(2 ^ 64) < j ∧ j < 2 ^ 64)) : oMulI (.d (.int i)) (.d (.int j)) μ = okz (.int (i * j)) μ := by
  show (if decide _ = true then _ else _) = _
  rw [decide_eq_true h]; rfl
@[simp] theorem Ev_mulI (i j : Int) : Ev (oMulI (.d (.int i)) (.d (.int j)) μ) P = (((-18446744073709551616 < i ∧ i < 18446744073709551616) ∨ (-18446744073709551616 < j ∧ j < 18446744073709551616)) ∧ P (.ok (.d (.int (i * j)))) μ) := by
  show Ev (if decide ((-(2 ^ 64) < i ∧ i < 2 ^ 64) ∨ (-(2 ^ 64) < j ∧ j < 2 ^ 64)) = true then _ else _) P = _
  simp
@[simp] theorem oNeg_i (i : Int) : oNeg (.d (.int i)) μ = okz (.int (-i)) μ := rfl
@[simp] theorem oLt_ii (i j : Int) : oLt (.d (.int i)) (.d (.int j)) μ = okz (.bl (decide (i < j))) μ := rfl
@[simp] theorem oLe_ii (i j : Int) : oLe (.d (.int i)) (.d (.int j)) μ = okz (.bl (decide (i ≤ j))) μ := rfl
@[simp] theorem oGt_ii (i j : Int) : oGt (.d (.int i)) (.d (.int j)) μ = okz (.bl (decide (i > j))) μ := rfl
@[simp] theorem oGe_ii (i j : Int) : oGe (.d (.int i)) (.d (.int j)) μ = okz (.bl (decide (i ≥ j))) μ := rfl
@[simp] theorem oIsN_d (d : D) : oIsN (.d d) (.d .non) μ = okz (.bl (isNon (.d d))) μ := rfl
@[simp] theorem oNotN_d (d : D) : oNotN (.d d) (.d .non) μ = okz (.bl (!isNon (.d d))) μ := rfl
def eqc (o : Option Bool) (k : Bool → Prop) (_ : Ph k := phm k) : Prop := match o with
  | some b => k b
  | none => False
@[simp ↓, simp] theorem eqc_s (b : Bool) (k : Bool → Prop) : eqc (some b) k = k b := rfl
@[simp] theorem Ev_eq (a b : D) : Ev (oEq (.d a) (.d b) μ) P = eqc (eqD a b) fun r => P (.ok (.d (.bl r))) μ := by
  show Ev (match eqD a b with | some r => okz (.bl r) μ | none => none) P = _
  cases eqD a b <;> simp [eqc]
@[simp] theorem Ev_ne (a b : D) : Ev (oNe (.d a) (.d b) μ) P = eqc (eqD a b) fun r => P (.ok (.d (.bl (!r)))) μ := by
  show Ev (match eqD a b with | some r => okz (.bl (!r)) μ | none => none) P = _
  cases eqD a b <;> simp [eqc]
@[simp] theorem eqD_ii (i j : Int) : eqD (.int i) (.int j) = some (decide (i = j)) := rfl
theorem str_dec (a b : List Nat) : (decide ((⟨a.toArray⟩ : Str) = ⟨b.toArray⟩)) = decide (a = b) := by
  apply decide_eq_decide.2
  constructor
  · intro h; cases h; rfl
  · rintro rfl; rfl
/- places -/
@[simp] theorem Ev_ixS (s : List Nat) (i : Int) : Ev (oIx (.d (.str s)) (.d (.int i)) μ) P = (s.length ≤ 16777216 ∧ ∃ c, L2.atI s i = some c ∧ P (.ok (.d (.str [c]))) μ) := by
  show Ev (if s.length ≤ 16777216 then (match L2.atI s i with | some c => okz (.str [c]) μ | none => none) else none) P = _
  cases L2.atI s i <;> simp
@[simp] theorem Ev_ixL (s : List D) (i : Int) : Ev (oIx (.d (.lst s)) (.d (.int i)) μ) P = (∃ c, L2.atI s i = some c ∧ P (.ok (.d c)) μ) := by
  show Ev (match L2.atI s i with | some c => okz c μ | none => none) P = _
  cases L2.atI s i <;> simp
@[simp] theorem Ev_ixT (s : List D) (i : Int) : Ev (oIx (.d (.tup s)) (.d (.int i)) μ) P = (∃ c, L2.atI s i = some c ∧ P (.ok (.d c)) μ) := by
  show Ev (match L2.atI s i with | some c => okz c μ | none => none) P = _
  cases L2.atI s i <;> simp
theorem Ev_ixK {n : Nat} {kvs : List (Key × Sv)} {b : Sv} {k : Key} {x : Sv} (h : μ[n]? = some (.dct kvs)) (hk : keyOf b = some k) (hl : lookK kvs k = some x) : Ev (oIx (.c n) b μ) P = P (.ok x) μ := by
  have : oIx (.c n) b μ = some (.ok x, μ) := by simp [oIx, h, hk, hl]
  rw [this, Ev_some]
theorem Ev_ixC {n : Nat} {xs : List Sv} {i : Int} (h : μ[n]? = some (.lst xs)) : Ev (oIx (.c n) (.d (.int i)) μ) P = (∃ x, L2.atI xs i = some x ∧ P (.ok x) μ) := by
  cases e : L2.atI xs i with
  | none =>
    have : oIx (.c n) (.d (.int i)) μ = none := by simp [oIx, h, e]
    rw [this]; simp
  | some x =>
    have : oIx (.c n) (.d (.int i)) μ = some (.ok x, μ) := by simp [oIx, h, e]
    rw [this]; simp
theorem atI_of {α : Type} {l : List α} {i : Int} (h0 : 0 ≤ i) (h1 : i < l.length) : ∃ x, L2.atI l i = some x ∧ l[i.toNat]? = some x ∧ x ∈ l := by
  have hx : i.toNat < l.length := by omega
  have e : L2.atI l i = l[i.toNat]? := by simp [L2.atI, L2.ixN, h0, h1]
  exact ⟨l[i.toNat], by rw [e]; simp [hx], by simp [hx], List.getElem_mem hx⟩
theorem atI_eq {α : Type} {l : List α} {i : Int} (h0 : 0 ≤ i) (h1 : i < l.length) : L2.atI l i = l[i.toNat]? := by simp [L2.atI, L2.ixN, h0, h1]
@[simp] theorem Ev_No {P : Except Exn (Option Int) → Mu → Prop} : Ev (fNo δ μ) P = P (.ok none) μ := Ev_some ..
def inc (v : Sv) (k : Int → Prop) (_ : Ph k := phm k) : Prop := match v with
  | .d (.int i) => k i
  | _ => False
@[simp ↓, simp] theorem inc_i (i : Int) (k : Int → Prop) : inc (.d (.int i)) k = k i := rfl
@[simp] theorem Ev_Pt (fa : Fz Sv) {P : Except Exn (Option Int) → Mu → Prop} : Ev (fPt fa δ μ) P = Ev (fa δ μ) (fun e μ => okc e (fun a => inc a fun i => P (.ok (some i)) μ) (fun x => P (.error x) μ)) := by
  show Ev (Rz.bind _ _) _ = _
  rw [Ev_bind]; refine Ev_ext fun e μ => ?_; cases e
  · rfl
  · rename_i a; simp only [okc_ok]
    match a with
    | .d (.bl _) => simp [inc]
    | .d .non => simp [inc]
    | .d (.int _) => simp [inc]
    | .d (.str _) => simp [inc]
    | .d (.lst _) => simp [inc]
    | .d (.tup _) => simp [inc]
    | .d (.ins _ _) => simp [inc]
    | .d (.exc _ _) => simp [inc]
    | .c _ => simp [inc]
@[simp] theorem Ev_Sl (fa : Fz Sv) (fl fh : Fz (Option Int)) : Ev (fSl fa fl fh δ μ) P = Ev (fa δ μ) (fun e μ => okc e (fun a => Ev (fl δ μ) (fun e μ => okc e (fun lo => Ev (fh δ μ) (fun e μ => okc e (fun hi => Ev (oSl a lo hi μ) P) (fun x => P (.error x) μ))) (fun x => P (.error x) μ))) (fun x => P (.error x) μ)) := by
  show Ev (Rz.bind _ _) _ = _
  rw [Ev_bind]; refine Ev_ext fun e μ => ?_; cases e <;> simp only [okc_ok, okc_err]
  rw [Ev_bind]; refine Ev_ext fun e μ => ?_; cases e <;> simp only [okc_ok, okc_err]
  rw [Ev_bind]
@[simp] theorem oSl_s (s : List Nat) (lo hi : Option Int) : oSl (.d (.str s)) lo hi μ = if s.length ≤ 16777216 then okz (.str (cutL s lo hi)) μ else none := rfl
@[simp] theorem oSl_l (s : List D) (lo hi : Option Int) : oSl (.d (.lst s)) lo hi μ = okz (.lst (cutL s lo hi)) μ := by
  show (match toDs (cutL (s.map Sv.d) lo hi) with | some ds => okz (.lst ds) μ | none => none) = _
  rw [cutL_map, toDs_map]
theorem cutL_len {α : Type} (xs : List α) (lo hi : Option Int) : (cutL xs lo hi).length ≤ xs.length := by simp [cutL]; omega
theorem cutL_mem {α : Type} {xs : List α} {lo hi : Option Int} {x : α} (h : x ∈ cutL xs lo hi) : x ∈ xs := List.drop_subset _ _ (List.take_subset _ _ h)
theorem cutL_to {α : Type} (xs : List α) (j : Int) (h : 0 ≤ j) : cutL xs none (some j) = xs.take j.toNat := by
  have e : HT.sIx xs.length xs.length (some j) = min j.toNat xs.length := by
    show (if j < 0 then (j + (xs.length : Int)).toNat else min j.toNat xs.length) = _
    rw [if_neg (by omega)]
  have e0 : HT.sIx xs.length 0 none = 0 := rfl
  rw [cutL, e, e0]
  rcases Nat.le_total j.toNat xs.length with h1 | h1
  · rw [Nat.min_eq_left h1]; rfl
  · rw [Nat.min_eq_right h1, List.take_of_length_le h1]; simp
theorem cutL_from {α : Type} (xs : List α) (j : Int) (h : 0 ≤ j) : cutL xs (some j) none = xs.drop j.toNat := by
  have e : HT.sIx xs.length 0 (some j) = min j.toNat xs.length := by
    show (if j < 0 then (j + (xs.length : Int)).toNat else min j.toNat xs.length) = _
    rw [if_neg (by omega)]
  have e0 : HT.sIx xs.length xs.length none = xs.length := rfl
  rw [cutL, e, e0, List.take_of_length_le (by simp)]
  rcases Nat.le_total j.toNat xs.length with h1 | h1
  · rw [Nat.min_eq_left h1]
  · rw [Nat.min_eq_right h1, List.drop_eq_nil_of_le (Nat.le_refl _), List.drop_eq_nil_of_le h1]
theorem cutL_mid {α : Type} (xs : List α) (i j : Int) (h : 0 ≤ i) (h1 : 0 ≤ j) : cutL xs (some i) (some j) = (xs.take j.toNat).drop i.toNat := by
  have e : HT.sIx xs.length xs.length (some j) = min j.toNat xs.length := by
    show (if j < 0 then (j + (xs.length : Int)).toNat else min j.toNat xs.length) = _
    rw [if_neg (by omega)]
  have e0 : HT.sIx xs.length 0 (some i) = min i.toNat xs.length := by
    show (if i < 0 then (i + (xs.length : Int)).toNat else min i.toNat xs.length) = _
    rw [if_neg (by omega)]
  rw [cutL, e, e0]
  apply List.ext_getElem?
  intro k
  simp only [List.getElem?_take, List.getElem?_drop]
  by_cases hk : min i.toNat xs.length + k < xs.length
  · by_cases hi : i.toNat ≤ xs.length
    · rw [Nat.min_eq_left hi]
      by_cases h2 : i.toNat + k < j.toNat
      · rw [if_pos (by omega), if_pos h2]
      · rw [if_neg (by omega), if_neg h2]
    · rw [List.getElem?_eq_none (by omega), List.getElem?_eq_none (by omega)]; simp
  · rw [List.getElem?_eq_none (by omega), List.getElem?_eq_none (by omega)]; simp
/- made of parts -/
def dsc (l : List Sv) (k : List D → Prop) (_ : Ph k := phm k) : Prop := match toDs l with
  | some ds => k ds
  | none => False
@[simp ↓, simp] theorem dsc_nil (k : List D → Prop) : dsc [] k = k [] := rfl
@[simp ↓, simp] theorem dsc_cons (x : D) (l : List Sv) (k : List D → Prop) : dsc (.d x :: l) k = dsc l fun ds => k (x :: ds) := by
  show (match (toDs l).map (fun r => x :: r) with | some ds => k ds | none => False) = match toDs l with | some ds => k (x :: ds) | none => False
  cases toDs l <;> rfl
@[simp ↓, simp] theorem dsc_map (l : List D) (k : List D → Prop) : dsc (l.map Sv.d) k = k l := by simp [dsc, toDs_map]
@[simp] theorem Ev_Lst (fr : Fz (List Sv)) : Ev (fLst fr δ μ) P = Ev (fr δ μ) (fun e μ => okc e (fun as => dsc as fun ds => ds.length ≤ 16777216 ∧ P (.ok (.d (.lst ds))) μ) (fun x => P (.error x) μ)) := by
  show Ev (Rz.bind _ _) _ = _
  rw [Ev_bind]; refine Ev_ext fun e μ => ?_; cases e
  · rfl
  · rename_i a; simp only [okc_ok, dsc]; cases toDs a <;> simp
@[simp] theorem Ev_Tup (fr : Fz (List Sv)) : Ev (fTup fr δ μ) P = Ev (fr δ μ) (fun e μ => okc e (fun as => dsc as fun ds => ds.length ≤ 16777216 ∧ P (.ok (.d (.tup ds))) μ) (fun x => P (.error x) μ)) := by
  show Ev (Rz.bind _ _) _ = _
  rw [Ev_bind]; refine Ev_ext fun e μ => ?_; cases e
  · rfl
  · rename_i a; simp only [okc_ok, dsc]; cases toDs a <;> simp
/- the builtins -/
@[simp] theorem bLen_s (s : List Nat) : bLen [.d (.str s)] μ = if s.length ≤ 16777216 then okz (.int s.length) μ else none := rfl
@[simp] theorem bLen_l (s : List D) : bLen [.d (.lst s)] μ = okz (.int s.length) μ := rfl
@[simp] theorem bLen_t (s : List D) : bLen [.d (.tup s)] μ = okz (.int s.length) μ := rfl
@[simp] theorem bMax2_i (i j : Int) : bMax2 [.d (.int i), .d (.int j)] μ = okz (.int (max i j)) μ := by
  show okz (.int (if j > i then j else i)) μ = _
  congr 2; by_cases h : j > i
  · rw [if_pos h]; omega
  · rw [if_neg h]; omega
@[simp] theorem bMin2_i (i j : Int) : bMin2 [.d (.int i), .d (.int j)] μ = okz (.int (min i j)) μ := by
  show okz (.int (if j < i then j else i)) μ = _
  congr 2; by_cases h : j < i
  · rw [if_pos h]; omega
  · rw [if_neg h]; omega
@[simp] theorem bInt_i (i : Int) : bInt [.d (.int i)] μ = okz (.int i) μ := rfl
@[simp] theorem bInt_b (i : Bool) : bInt [.d (.bl i)] μ = okz (.int (if i then 1 else 0)) μ := rfl
@[simp] theorem bTuple_t (l : List D) : bTuple [.d (.tup l)] μ = okz (.tup l) μ := rfl
@[simp] theorem bTuple_l (l : List D) : bTuple [.d (.lst l)] μ = okz (.tup l) μ := by
  show (match toDs (l.map Sv.d) with | some ds => okz (.tup ds) μ | none => none) = _
  rw [toDs_map]
@[simp] theorem bList_t (l : List D) : bList [.d (.tup l)] μ = okz (.lst l) μ := by
  show (match toDs (l.map Sv.d) with | some ds => okz (.lst ds) μ | none => none) = _
  rw [toDs_map]
@[simp] theorem bList_l (l : List D) : bList [.d (.lst l)] μ = okz (.lst l) μ := by
  show (match toDs (l.map Sv.d) with | some ds => okz (.lst ds) μ | none => none) = _
  rw [toDs_map]
def tyc (tab : Tg → Option Bool) (o : Option Tg) (k : Bool → Prop) (_ : Ph k := phm k) : Prop := match o.bind tab with
  | some b => k b
  | none => False
@[simp] theorem Ev_isi (tab : Tg → Option Bool) (fa : Fz Sv) : Ev (fIsi tab fa δ μ) P = Ev (fa δ μ) (fun e μ => okc e (fun a => tyc tab (tgOf μ a) fun b => P (.ok (.d (.bl b))) μ) (fun x => P (.error x) μ)) := by
  show Ev (Rz.bind _ _) _ = _
  rw [Ev_bind]; refine Ev_ext fun e μ => ?_; cases e
  · rfl
  · rename_i a; simp only [okc_ok, tyc]; cases tgOf μ a
    · simp
    · rename_i t; simp; cases tab t <;> simp
@[simp] theorem tgOf_i (i : Int) : tgOf μ (.d (.int i)) = some (.b "int") := rfl
@[simp] theorem tgOf_b (i : Bool) : tgOf μ (.d (.bl i)) = some (.b "bool") := rfl
@[simp] theorem tgOf_s (i : List Nat) : tgOf μ (.d (.str i)) = some (.b "str") := rfl
@[simp] theorem tgOf_l (i : List D) : tgOf μ (.d (.lst i)) = some (.b "list") := rfl
@[simp] theorem tgOf_t (i : List D) : tgOf μ (.d (.tup i)) = some (.b "tuple") := rfl
@[simp] theorem tgOf_n : tgOf μ (.d .non) = some (.b "NoneType") := rfl
@[simp ↓, simp] theorem tyc_b (T n : String) (k : Bool → Prop) : tyc (isB T) (some (.b n)) k = (n ∈ seven ∧ k (isT T n)) := by
  simp only [tyc, Option.bind, isB]
  by_cases h : n ∈ seven <;> simp [h]
@[simp] theorem seven_a : ("int" ∈ seven) = True := by simp [seven]
@[simp] theorem seven_b : ("bool" ∈ seven) = True := by simp [seven]
@[simp] theorem seven_c : ("str" ∈ seven) = True := by simp [seven]
@[simp] theorem seven_d : ("list" ∈ seven) = True := by simp [seven]
@[simp] theorem seven_e : ("tuple" ∈ seven) = True := by simp [seven]
@[simp] theorem seven_f : ("NoneType" ∈ seven) = True := by simp [seven]
@[simp] theorem seven_g : ("dict" ∈ seven) = True := by simp [seven]
@[simp] theorem isT_eq (T n : String) : isT T n = (n == T || (T == "int" && n == "bool")) := rfl
@[simp] theorem Ev_M (T : String) (m : Opm) (fo : Fz Sv) (fr : Fz (List Sv)) : Ev (fM T m fo fr δ μ) P = Ev (fo δ μ) (fun e μ => okc e (fun o => tyS T μ o = true ∧ Ev (fr δ μ) (fun e μ => okc e (fun as => Ev (m o as μ) P) (fun x => P (.error x) μ))) (fun x => P (.error x) μ)) := by
  show Ev (Rz.bind _ _) _ = _
  rw [Ev_bind]; refine Ev_ext fun e μ => ?_; cases e
  · rfl
  · rename_i a; simp only [okc_ok]; by_cases h : tyS T μ a = true <;> simp [h, Ev_bind]
@[simp] theorem tyS_s (T : String) (s : List Nat) : tyS T μ (.d (.str s)) = (T == "str") := rfl
@[simp] theorem mEnds_s (s t : List Nat) : mEnds (.d (.str s)) [.d (.str t)] μ = okz (.bl (endsL s t)) μ := rfl
def revO (a : Sv) (μ : Mu) : Rz Sv := match a with
  | .d (.str s) => if s.length ≤ 16777216 then okz (.str s.reverse) μ else none
  | a => match lstV μ a with
    | some xs => match toDs xs with
      | some ds => okz (.lst ds.reverse) μ
      | none => none
    | none => none
@[simp] theorem Ev_Rev (fa : Fz Sv) : Ev (fRev fa δ μ) P = Ev (fa δ μ) (fun e μ1 => okc e (fun a => Ev (revO a μ1) P) (fun x => P (.error x) μ1)) := by
  show Ev (Rz.bind _ (fun a μ => revO a μ)) _ = _
  rw [Ev_bind]
@[simp] theorem revO_s (s : List Nat) : revO (.d (.str s)) μ = if s.length ≤ 16777216 then okz (.str s.reverse) μ else none := rfl
@[simp] theorem revO_l (s : List D) : revO (.d (.lst s)) μ = okz (.lst s.reverse) μ := by
  show (match toDs (s.map Sv.d) with | some ds => okz (.lst ds.reverse) μ | none => none) = _
  rw [toDs_map]
theorem Ev_lnk (v : Sv) (k : Mu → Rz Sv) : Ev (lnk v μ k) P = blc v fun b => if b = true then Ev (k μ) P else P (.ok (.d (.bl false))) μ := by
  match v with
  | .d (.bl true) => simp [lnk]
  | .d (.bl false) => simp [lnk]
  | .d .non => simp [blc, lnk]
  | .d (.int _) => simp [blc, lnk]
  | .d (.str _) => simp [blc, lnk]
  | .d (.lst _) => simp [blc, lnk]
  | .d (.tup _) => simp [blc, lnk]
  | .d (.ins _ _) => simp [blc, lnk]
  | .d (.exc _ _) => simp [blc, lnk]
  | .c _ => simp [blc, lnk]
def chc (o : Op2) (f : Fz Sv) (δ : Dl) (b : Sv) (μ : Mu) : Rz Sv := (f δ μ).bind fun c μ => o b c μ
def chc2 (o o' : Op2) (f g : Fz Sv) (δ : Dl) (b : Sv) (μ : Mu) : Rz Sv := (f δ μ).bind fun c μ => (o b c μ).bind fun v μ => lnk v μ fun μ => (g δ μ).bind fun d μ => o' c d μ
@[simp] theorem Ev_chc (o : Op2) (f : Fz Sv) (b : Sv) : Ev (chc o f δ b μ) P = Ev (f δ μ) (fun e μ => okc e (fun c => Ev (o b c μ) P) (fun x => P (.error x) μ)) := Ev_bind ..
@[simp] theorem Ev_ch (o o' : Op2) (fa fb fc : Fz Sv) : Ev (fCh o o' fa fb fc δ μ) P = Ev (fa δ μ) (fun e μ => okc e (fun a => Ev (fb δ μ) (fun e μ => okc e (fun b => Ev (o a b μ) (fun e μ => okc e (fun v => blc v fun t => if t = true then Ev (chc o' fc δ b μ) P else P (.ok (.d (.bl false))) μ) (fun x => P (.error x) μ))) (fun x => P (.error x) μ))) (fun x => P (.error x) μ)) := by
  show Ev (Rz.bind _ _) _ = _
  rw [Ev_bind]; refine Ev_ext fun e μ => ?_; cases e <;> simp only [okc_ok, okc_err]
  rw [Ev_bind]; refine Ev_ext fun e μ => ?_; cases e <;> simp only [okc_ok, okc_err]
  rw [Ev_bind]; refine Ev_ext fun e μ => ?_; cases e <;> simp only [okc_ok, okc_err]
  rw [Ev_lnk]; rfl
@[simp] theorem Ev_chc2 (o o' : Op2) (f g : Fz Sv) (b : Sv) : Ev (chc2 o o' f g δ b μ) P = Ev (f δ μ) (fun e μ => okc e (fun c => Ev (o b c μ) (fun e μ => okc e (fun v => blc v fun t => if t = true then Ev (chc o' g δ c μ) P else P (.ok (.d (.bl false))) μ) (fun x => P (.error x) μ))) (fun x => P (.error x) μ)) := by
  show Ev (Rz.bind _ _) _ = _
  rw [Ev_bind]; refine Ev_ext fun e μ => ?_; cases e <;> simp only [okc_ok, okc_err]
  rw [Ev_bind]; refine Ev_ext fun e μ => ?_; cases e <;> simp only [okc_ok, okc_err]
  rw [Ev_lnk]; rfl
@[simp] theorem Ev_ch3 (o o' o'' : Op2) (fa fb fc fd : Fz Sv) : Ev (fCh3 o o' o'' fa fb fc fd δ μ) P = Ev (fa δ μ) (fun e μ => okc e (fun a => Ev (fb δ μ) (fun e μ => okc e (fun b => Ev (o a b μ) (fun e μ => okc e (fun v => blc v fun t => if t = true then Ev (chc2 o' o'' fc fd δ b μ) P else P (.ok (.d (.bl false))) μ) (fun x => P (.error x) μ))) (fun x => P (.error x) μ))) (fun x => P (.error x) μ)) := by
  show Ev (Rz.bind _ _) _ = _
  rw [Ev_bind]; refine Ev_ext fun e μ => ?_; cases e <;> simp only [okc_ok, okc_err]
  rw [Ev_bind]; refine Ev_ext fun e μ => ?_; cases e <;> simp only [okc_ok, okc_err]
  rw [Ev_bind]; refine Ev_ext fun e μ => ?_; cases e <;> simp only [okc_ok, okc_err]
  rw [Ev_lnk]; rfl
@[simp] theorem eqD_ss (a b : List Nat) : eqD (.str a) (.str b) = some (decide (a = b)) := by
  show some (decide ((⟨a.toArray⟩ : Str) = ⟨b.toArray⟩)) = _
  rw [str_dec]
end
/- the texts that join makes -/
theorem toStrs_map : ∀ l : List (List Nat), toStrs (l.map D.str) = some l
  | [] => rfl
  | x :: r => by simp [toStrs, toStrs_map r]
@[simp] theorem mJoin_s (sep : List Nat) (l : List (List Nat)) (μ : Mu) : mJoin (.d (.str sep)) [.d (.lst (l.map D.str))] μ = if (l.map List.length).sum + l.length * sep.length ≤ 16777216 then okz (.str (joinL sep l)) μ else none := by
  show (match toDs ((l.map D.str).map Sv.d) with
      | some ds => match toStrs ds with
        | some ss => if (ss.map List.length).sum + ss.length * sep.length ≤ 16777216 then okz (.str (joinL sep ss)) μ else none
        | none => none
      | none => none) = _
  rw [toDs_map]; simp only [toStrs_map]
theorem joinL_nil : ∀ l : List (List Nat), joinL [] l = l.flatten
  | [] => rfl
  | [x] => by simp [joinL]
  | x :: y :: r => by
    show x ++ ([] ++ joinL [] (y :: r)) = _
    rw [joinL_nil (y :: r)]; simp
/- a run of a function's body -/
def rtc (μ : Mu) (P : Except Exn Sv → Mu → Prop) (f : Fl) (μ' : Mu) : Prop := match f with
  | .rt (.d x) => P (.ok (.d x)) (gcM μ μ')
  | .rt (.c m) => P (.ok (.c m)) μ'
  | .nx => P (.ok (.d .non)) (gcM μ μ')
  | .ex x => P (.error x) (gcM μ μ')
  | _ => False
@[simp] theorem rtc_d (μ μ' : Mu) (P : Except Exn Sv → Mu → Prop) (x : D) : rtc μ P (.rt (.d x)) μ' = P (.ok (.d x)) (gcM μ μ') := rfl
@[simp] theorem rtc_c (μ μ' : Mu) (P : Except Exn Sv → Mu → Prop) (x : Nat) : rtc μ P (.rt (.c x)) μ' = P (.ok (.c x)) μ' := rfl
@[simp] theorem rtc_n (μ μ' : Mu) (P : Except Exn Sv → Mu → Prop) : rtc μ P .nx μ' = P (.ok (.d .non)) (gcM μ μ') := rfl
@[simp] theorem rtc_x (μ μ' : Mu) (P : Except Exn Sv → Mu → Prop) (x : Exn) : rtc μ P (.ex x) μ' = P (.error x) (gcM μ μ') := rfl
@[simp] theorem Ev_run {P : Except Exn Sv → Mu → Prop} {μ : Mu} (n nl : Nat) (S : Sz) (svs : List Sv) : Ev (runB n nl S svs μ) P = (svs.length = n ∧ Es (S (svs.map some ++ List.replicate (nl - svs.length) none) μ) (fun f _ μ' => rtc μ P f μ')) := by
  apply propext
  by_cases h : svs.length = n
  · simp only [h, true_and]
    unfold runB
    simp only [h, if_true]
    constructor
    · rintro ⟨e, μ1, h1, p⟩
      match e2 : S (svs.map some ++ List.replicate (nl - n) none) μ, h1 with
      | some (.rt (.d x), δ, μ'), h1 => cases h1; exact ⟨_, _, _, rfl, p⟩
      | some (.rt (.c x), δ, μ'), h1 => cases h1; exact ⟨_, _, _, rfl, p⟩
      | some (.nx, δ, μ'), h1 => cases h1; exact ⟨_, _, _, rfl, p⟩
      | some (.ex x, δ, μ'), h1 => cases h1; exact ⟨_, _, _, rfl, p⟩
      | some (.bk, δ, μ'), h1 => cases h1
      | some (.ct, δ, μ'), h1 => cases h1
      | none, h1 => cases h1
    · rintro ⟨f, δ, μ', e, p⟩
      rw [e]
      match f, p with
      | .rt (.d x), p => exact ⟨_, _, rfl, p⟩
      | .rt (.c x), p => exact ⟨_, _, rfl, p⟩
      | .nx, p => exact ⟨_, _, rfl, p⟩
      | .ex x, p => exact ⟨_, _, rfl, p⟩
      | .bk, p => exact p.elim
      | .ct, p => exact p.elim
  · simp only [h, false_and, iff_false]
    unfold runB
    rw [if_neg h]; simp
/- what a run leaves behind -/
def Lk (μ μ' : Mu) : Prop := ∀ (i : Nat) (c : Cell), μ'[i]? = some c → μ[i]? = some c ∨ c.flat = true
theorem Lk.refl (μ : Mu) : Lk μ μ := fun _ _ h => .inl h
theorem gc_lk {μ μ' t : Mu} (h : Lk μ μ') (hl : μ'.length = μ.length) : gcM μ (μ' ++ t) = μ' := by
  have g : GcOk μ (μ' ++ t) := ⟨by simp [hl], fun i c hi hc => by
    rw [List.getElem?_append_left (by omega)] at hc
    exact h i c hc⟩
  unfold gcM; rw [if_pos g, ← hl]; simp
theorem gc_len {μ μ' : Mu} (hl : μ'.length = μ.length) : gcM μ μ' = μ' := by
  unfold gcM; split
  · rw [← hl]; simp
  · rfl
@[simp] theorem gc_self' (μ : Mu) : gcM μ μ = μ := gc_self μ
/- a comprehension that is a tree -/
theorem Ev_lcF {P : Except Exn Sv → Mu → Prop} {δ : Dl} {μ : Mu} {fi : Fz (List Sv)} {vs : List Nat} {g : Tz} {c : Fz Bool} {e : Fz Sv} (items : List Sv) (hi : fi δ μ = some (.ok items, μ)) (hn : items.length ≤ 16777216) (I : Nat → List D → Mu → Prop) (h0 : I 0 [] μ)
    (hs : ∀ (i : Nat) (x : Sv) (acc : List D) (μ' : Mu), items[i]? = some x → acc.length ≤ i → μ'.length = μ.length → I i acc μ' → someD (g x (wipeZ δ vs)) fun δ1 => Ev (c δ1 (μ' ++ [.lst (acc.map Sv.d)])) fun r μ2 => ∃ b, r = .ok b ∧
      if b = true then Ev (e δ1 μ2) fun r μ3 => ∃ y μ'', r = .ok (.d y) ∧ μ3 = μ'' ++ [.lst (acc.map Sv.d)] ∧ μ''.length = μ.length ∧ I (i + 1) (acc ++ [y]) μ''
      else ∃ μ'', μ2 = μ'' ++ [.lst (acc.map Sv.d)] ∧ μ''.length = μ.length ∧ I (i + 1) acc μ'')
    (he : ∀ acc μ', acc.length ≤ items.length → μ'.length = μ.length → I items.length acc μ' → Lk μ μ' ∧ P (.ok (.d (.lst acc))) μ') : Ev (fFrz (fLcC fi vs g c e) δ μ) P := by
  have go : ∀ (xs : List Sv) (j : Nat) (acc : List D) (μ' : Mu), (∀ i x, xs[i]? = some x → items[j + i]? = some x) → j + xs.length = items.length → acc.length ≤ j → μ'.length = μ.length → I j acc μ' → ∃ acc' μ'', lcL g c e μ.length (wipeZ δ vs) xs (μ' ++ [.lst (acc.map Sv.d)]) = some (μ'' ++ [.lst (acc'.map Sv.d)]) ∧ acc'.length ≤ items.length ∧ μ''.length = μ.length ∧ I items.length acc' μ'' := by
    intro xs
    induction xs with
    | nil =>
      intro j acc μ' hd hj hl hm h
      simp at hj; subst hj
      exact ⟨acc, μ', rfl, hl, hm, h⟩
    | cons x xs ih =>
      intro j acc μ' hd hj hl hm h
      simp only [List.length_cons] at hj
      have a := hs j x acc μ' (hd 0 x rfl) hl hm h
      cases hg : g x (wipeZ δ vs) with
      | none => rw [hg] at a; exact a.elim
      | some δ1 =>
        rw [hg] at a
        obtain ⟨r, μ2, e1, b, rfl, p⟩ := a
        have hd' : ∀ i y, xs[i]? = some y → items[j + 1 + i]? = some y := fun i y q => by
          have := hd (i + 1) y q
          rwa [show j + (i + 1) = j + 1 + i by omega] at this
        cases b with
        | true =>
          simp only [if_true] at p
          obtain ⟨r, μ3, e2, y, μ4, rfl, rfl, h4, i4⟩ := p
          obtain ⟨acc', μ5, e5, l5, m5, i5⟩ := ih (j + 1) (acc ++ [y]) μ4 hd' (by omega) (by simp; omega) h4 i4
          refine ⟨acc', μ5, ?_, l5, m5, i5⟩
          have q1 : (μ4 ++ [Cell.lst (acc.map Sv.d)])[μ.length]? = some (.lst (acc.map Sv.d)) := by
            rw [List.getElem?_append_right (by omega)]; simp [h4]
          have q2 : (μ4 ++ [Cell.lst (acc.map Sv.d)]).set μ.length (.lst (acc.map Sv.d ++ [.d y])) = μ4 ++ [.lst ((acc ++ [y]).map Sv.d)] := by
            rw [List.set_append_right _ _ (by omega)]; simp [h4]
          simp only [lcL, hg, e1, e2, q1]
          rw [if_pos (by simp; omega), q2, e5]
        | false =>
          simp only [Bool.false_eq_true, if_false] at p
          obtain ⟨μ4, rfl, h4, i4⟩ := p
          obtain ⟨acc', μ5, e5, l5, m5, i5⟩ := ih (j + 1) acc μ4 hd' (by omega) (by omega) h4 i4
          refine ⟨acc', μ5, ?_, l5, m5, i5⟩
          simp only [lcL, hg, e1, e5]
  obtain ⟨acc, μ1, e1, hl, hm, h1⟩ := go items 0 [] μ (fun i x h => by simpa using h) (by simp) (by simp) rfl h0
  obtain ⟨hk, hp⟩ := he acc μ1 hl hm h1
  have e2 : fLcC fi vs g c e δ μ = some (.ok (.c μ.length), μ1 ++ [.lst (acc.map Sv.d)]) := by
    show Rz.bind (fi δ μ) _ = _
    rw [hi]; simp only [Rz.bind_ok]
    have : (μ ++ [Cell.lst []]) = μ ++ [.lst (([] : List D).map Sv.d)] := rfl
    rw [this, e1]
  refine ⟨.ok (.d (.lst acc)), μ1, ?_, hp⟩
  show Rz.bind _ _ = _
  rw [e2]; simp only [Rz.bind_ok]
  have q1 : (μ1 ++ [Cell.lst (acc.map Sv.d)])[μ.length]? = some (.lst (acc.map Sv.d)) := by
    rw [List.getElem?_append_right (by omega)]; simp [hm]
  have q2 : (μ1 ++ [Cell.lst (acc.map Sv.d)]).set μ.length .fz = μ1 ++ [.fz] := by
    rw [List.set_append_right _ _ (by omega)]; simp [hm]
  simp only [frzV, q1, toDs_map, q2, gc_lk hk hm]
/- what loops go over -/
section
variable {P : Except Exn (List Sv) → Mu → Prop} {δ : Dl} {μ : Mu}
def rng1O (as : List Sv) (μ : Mu) : Rz (List Sv) := match as with
  | [.d (.int j)] => if -(2 ^ 62) ≤ j ∧ j < 2 ^ 62 then some (.ok (rngI 0 j.toNat), μ) else none
  | _ => none
def rng2O (as : List Sv) (μ : Mu) : Rz (List Sv) := match as with
  | [.d (.int i), .d (.int j)] => if -(2 ^ 62) ≤ i ∧ i < 2 ^ 62 ∧ -(2 ^ 62) ≤ j ∧ j < 2 ^ 62 then some (.ok (rngI i (j - i).toNat), μ) else none
  | _ => none
def enumO (as : List Sv) (μ : Mu) : Rz (List Sv) := match as with
  | [.d (.lst l)] => some (.ok (enI 0 l), μ)
  | _ => none
def zipO (as : List Sv) (μ : Mu) : Rz (List Sv) := match as with
  | [.d (.lst l), .d (.lst m)] => some (.ok (zipI l m), μ)
  | _ => none
def seqO (a : Sv) (μ : Mu) : Rz (List Sv) := match a with
  | .d (.lst l) => some (.ok (l.map Sv.d), μ)
  | .d (.tup l) => some (.ok (l.map Sv.d), μ)
  | .d (.str s) => some (.ok (s.map fun c => .d (.str [c])), μ)
  | _ => none
@[simp] theorem Ev_rng1 (fr : Fz (List Sv)) : Ev (fRng1 fr δ μ) P = Ev (fr δ μ) (fun e μ => okc e (fun a => Ev (rng1O a μ) P) (fun x => P (.error x) μ)) := by
  show Ev (Rz.bind _ (fun a μ => rng1O a μ)) _ = _
  rw [Ev_bind]
@[simp] theorem Ev_rng2 (fr : Fz (List Sv)) : Ev (fRng2 fr δ μ) P = Ev (fr δ μ) (fun e μ => okc e (fun a => Ev (rng2O a μ) P) (fun x => P (.error x) μ)) := by
  show Ev (Rz.bind _ (fun a μ => rng2O a μ)) _ = _
  rw [Ev_bind]
@[simp] theorem Ev_enum (fr : Fz (List Sv)) : Ev (fEnum fr δ μ) P = Ev (fr δ μ) (fun e μ => okc e (fun a => Ev (enumO a μ) P) (fun x => P (.error x) μ)) := by
  show Ev (Rz.bind _ (fun a μ => enumO a μ)) _ = _
  rw [Ev_bind]
@[simp] theorem Ev_zip (fr : Fz (List Sv)) : Ev (fZip fr δ μ) P = Ev (fr δ μ) (fun e μ => okc e (fun a => Ev (zipO a μ) P) (fun x => P (.error x) μ)) := by
  show Ev (Rz.bind _ (fun a μ => zipO a μ)) _ = _
  rw [Ev_bind]
@[simp] theorem Ev_seqf (fa : Fz Sv) : Ev (fSeq fa δ μ) P = Ev (fa δ μ) (fun e μ => okc e (fun a => Ev (seqO a μ) P) (fun x => P (.error x) μ)) := by
  show Ev (Rz.bind _ (fun a μ => seqO a μ)) _ = _
  rw [Ev_bind]
@[simp] theorem rng1O_i (j : Int) : rng1O [.d (.int j)] μ = if -(2 ^ 62) ≤ j ∧ j < 2 ^ 62 then some (.ok (rngI 0 j.toNat), μ) else none := rfl
@[simp] theorem rng2O_i (i j : Int) : rng2O [.d (.int i), .d (.int j)] μ = if -(2 ^ 62) ≤ i ∧ i < 2 ^ 62 ∧ -(2 ^ 62) ≤ j ∧ j < 2 ^ 62 then some (.ok (rngI i (j - i).toNat), μ) else none := rfl
@[simp] theorem enumO_l (l : List D) : enumO [.d (.lst l)] μ = some (.ok (enI 0 l), μ) := rfl
@[simp] theorem zipO_l (l m : List D) : zipO [.d (.lst l), .d (.lst m)] μ = some (.ok (zipI l m), μ) := rfl
@[simp] theorem seqO_l (l : List D) : seqO (.d (.lst l)) μ = some (.ok (l.map Sv.d), μ) := rfl
@[simp] theorem seqO_t (l : List D) : seqO (.d (.tup l)) μ = some (.ok (l.map Sv.d), μ) := rfl
@[simp] theorem seqO_s (l : List Nat) : seqO (.d (.str l)) μ = some (.ok (l.map fun c => .d (.str [c])), μ) := rfl
end
theorem enI_at : ∀ {l : List D} {k i : Nat} {x : Sv}, (enI k l)[i]? = some x → ∃ y, l[i]? = some y ∧ x = .d (.tup [.int ((k + i : Nat) : Int), y])
  | [], k, i, x, h => by simp [enI] at h
  | y :: r, k, 0, x, h => by simp [enI] at h; exact ⟨y, rfl, by simp [← h]⟩
  | y :: r, k, i + 1, x, h => by
    simp [enI] at h
    obtain ⟨z, a, b⟩ := enI_at h
    exact ⟨z, by simpa using a, by rw [b]; congr 4; omega⟩
@[simp] theorem enI_length (l : List D) (k : Nat) : (enI k l).length = l.length := by
  induction l generalizing k with
  | nil => rfl
  | cons x r ih => simp [enI, ih]
theorem atI_lst {α : Type} {l : List α} {i : Int} (h0 : 0 ≤ i) (h1 : i < l.length) : ∃ x, L2.atI l i = some x ∧ x ∈ l := let ⟨x, a, _, b⟩ := atI_of h0 h1; ⟨x, a, b⟩
theorem rngI_at {lo : Int} {n i : Nat} {x : Sv} (h : (rngI lo n)[i]? = some x) : i < n ∧ x = .d (.int (lo + (i : Int))) := by
  have hi : i < n := by
    have := (List.getElem?_eq_some_iff.1 h).1
    simpa [rngI] using this
  refine ⟨hi, ?_⟩
  simp [rngI, hi] at h
  exact h.symm
@[simp] theorem rngI_len (lo : Int) (n : Nat) : (rngI lo n).length = n := by simp [rngI]
theorem join_chars (l : List Nat) : joinL [] (l.map fun c => [c]) = l := by
  rw [joinL_nil]; induction l with
  | nil => rfl
  | cons a r ih => simpa using ih
theorem mJoin_c (l : List Nat) (h : l.length ≤ 16777216) (μ : Mu) : mJoin (.d (.str [])) [.d (.lst (l.map fun c => D.str [c]))] μ = okz (.str l) μ := by
  have e : (l.map fun c => D.str [c]) = (l.map fun c => [c]).map D.str := by simp
  have e2 : ((l.map fun c => [c]).map List.length).sum = l.length := by
    clear h e
    induction l with
    | nil => rfl
    | cons a r ih => simp at ih ⊢; omega
  rw [e, mJoin_s, join_chars, e2]; simp [h]
theorem Es_putK {R : Fl → Dl → Mu → Prop} {δ : Dl} {μ : Mu} {n : Nat} {kvs : List (Key × Sv)} {b v : Sv} {k : Key} (h : μ[n]? = some (.dct kvs)) (hk : keyOf b = some k) (hl : kvs.length < 16777216) : Es (setAt (.c n) b v δ μ) R = R .nx δ (μ.set n (.dct (putS kvs k v))) := by
  have : setAt (.c n) b v δ μ = some (.nx, δ, μ.set n (.dct (putS kvs k v))) := by simp [setAt, h, hk, hl]
  rw [this, Es_some]
theorem set_at {α : Type} {μ : List α} {n : Nat} {c c' : α} (h : μ[n]? = some c) : (μ.set n c')[n]? = some c' := by
  obtain ⟨h1, _⟩ := List.getElem?_eq_some_iff.1 h
  simp [h1]
end Z
namespace Z
open PySem PySem.Spec PyProof.Rows L2
/-! ## the weakest conditions of what FwT and FwU add -/
theorem Es_forLC {n : Nat} {all : List Sv} {g : Tz} {S : Sz} {R : Fl → Dl → Mu → Prop} (I : Nat → Dl → Mu → Prop) (hk : ∀ i δ μ, I i δ μ → μ[n]? = some (.lst all)) : ∀ (xs : List Sv) (j : Nat) (δ : Dl) (μ : Mu), I j δ μ →
    (∀ (i : Nat) (x : Sv) (δ : Dl) (μ : Mu), xs[i]? = some x → I (j + i) δ μ → someD (g x δ) fun δ1 => Es (S δ1 μ) fun f δ2 μ2 => match f with
      | .nx => I (j + i + 1) δ2 μ2
      | .ct => I (j + i + 1) δ2 μ2
      | .bk => R .nx δ2 μ2
      | f => R f δ2 μ2) →
    (∀ δ μ, I (j + xs.length) δ μ → R .nx δ μ) → Es (forLC n all g S xs δ μ) R
  | [], j, δ, μ, h0, _, he => by
    unfold forLC
    rw [if_pos (hk _ _ _ h0), Es_some]; exact he δ μ h0
  | x :: xs, j, δ, μ, h0, hs, he => by
    have h := hs 0 x δ μ rfl h0
    unfold forLC
    rw [if_pos (hk _ _ _ h0)]
    cases hg : g x δ with
    | none => rw [hg] at h; exact h.elim
    | some δ1 =>
      rw [hg] at h
      simp only [someD_s] at h
      obtain ⟨f, δ2, μ2, e, p⟩ := h
      simp only [e]
      have st : ∀ (i : Nat) (y : Sv) (δ : Dl) (μ : Mu), xs[i]? = some y → I (j + 1 + i) δ μ → someD (g y δ) fun δ1 => Es (S δ1 μ) fun f δ2 μ2 => match f with
          | .nx => I (j + 1 + i + 1) δ2 μ2
          | .ct => I (j + 1 + i + 1) δ2 μ2
          | .bk => R .nx δ2 μ2
          | f => R f δ2 μ2 := by
        intro i y δ μ e1 h1
        have e3 : j + 1 + i = j + (i + 1) := by omega
        rw [e3] at h1 ⊢
        exact hs (i + 1) y δ μ e1 h1
      have en : ∀ δ μ, I (j + 1 + xs.length) δ μ → R .nx δ μ := fun δ μ h => he δ μ (by
        have e3 : j + (x :: xs).length = j + 1 + xs.length := by simp only [List.length_cons]; omega
        rw [e3]; exact h)
      cases f with
      | nx => exact Es_forLC I hk xs (j + 1) δ2 μ2 p st en
      | ct => exact Es_forLC I hk xs (j + 1) δ2 μ2 p st en
      | bk => rw [Es_some]; exact p
      | rt v => rw [Es_some]; exact p
      | ex v => rw [Es_some]; exact p
theorem Es_forC {fa : Fz Sv} {g : Tz} {S : Sz} {δ : Dl} {μ μ1 : Mu} {n : Nat} {xs : List Sv} {R : Fl → Dl → Mu → Prop} (ha : fa δ μ = some (.ok (.c n), μ1)) (hx : μ1[n]? = some (.lst xs)) (h : Es (forLC n xs g S xs δ μ1) R) : Es (sForC fa g S δ μ) R := by
  have : sForC fa g S δ μ = forLC n xs g S xs δ μ1 := by
    show eS (fa δ μ) δ _ = _
    rw [ha]; simp [hx]
  rw [this]; exact h
/- a comprehension over a cell that is a tree at its end; its items see no state of their own -/
theorem Ev_lcKF {P : Except Exn Sv → Mu → Prop} {δ : Dl} {μ : Mu} {fa : Fz Sv} {vs : List Nat} {g : Tz} {c : Fz Bool} {e : Fz Sv} {m : Nat} (items : List Sv) (hi : fa δ μ = some (.ok (.c m), μ)) (hx : μ[m]? = some (.lst items)) (hn : items.length ≤ 16777216) (f : Sv → D)
    (hs : ∀ (x : Sv) (acc : List D), x ∈ items → ∃ δ1, g x (wipeZ δ vs) = some δ1 ∧ c δ1 (μ ++ [.lst (acc.map Sv.d)]) = some (.ok true, μ ++ [.lst (acc.map Sv.d)]) ∧ e δ1 (μ ++ [.lst (acc.map Sv.d)]) = some (.ok (.d (f x)), μ ++ [.lst (acc.map Sv.d)]))
    (he : P (.ok (.d (.lst (items.map f)))) μ) : Ev (fFrz (fLcK fa vs g c e) δ μ) P := by
  have hm := (List.getElem?_eq_some_iff.1 hx).1
  have gd : ∀ acc : List D, (μ ++ [Cell.lst (acc.map Sv.d)])[m]? = some (.lst items) := fun acc => by rw [List.getElem?_append_left hm]; exact hx
  have go : ∀ (xs : List Sv) (acc : List D), (∀ x ∈ xs, x ∈ items) → acc.length + xs.length ≤ items.length → lcLC m items g c e μ.length (wipeZ δ vs) xs (μ ++ [.lst (acc.map Sv.d)]) = some (μ ++ [.lst ((acc ++ xs.map f).map Sv.d)]) := by
    intro xs
    induction xs with
    | nil => intro acc _ _; unfold lcLC; rw [if_pos (gd acc)]; simp
    | cons x xs ih =>
      intro acc hsub hl
      simp only [List.length_cons] at hl
      obtain ⟨δ1, e1, e2, e3⟩ := hs x acc (hsub x (by simp))
      have q1 : (μ ++ [Cell.lst (acc.map Sv.d)])[μ.length]? = some (.lst (acc.map Sv.d)) := by simp
      have q2 : (μ ++ [Cell.lst (acc.map Sv.d)]).set μ.length (.lst (acc.map Sv.d ++ [.d (f x)])) = μ ++ [.lst ((acc ++ [f x]).map Sv.d)] := by simp
      unfold lcLC
      rw [if_pos (gd acc)]
      simp only [e1, e2, e3, q1]
      rw [if_pos (by simp; omega), q2, ih (acc ++ [f x]) (fun y hy => hsub y (by simp [hy])) (by simp; omega)]
      simp
  have g0 := go items [] (fun x h => h) (by simp)
  have e2 : fLcK fa vs g c e δ μ = some (.ok (.c μ.length), μ ++ [.lst ((items.map f).map Sv.d)]) := by
    show Rz.bind (fa δ μ) _ = _
    rw [hi]; simp only [Rz.bind_ok, hx]
    have : (μ ++ [Cell.lst []]) = μ ++ [.lst (([] : List D).map Sv.d)] := rfl
    rw [this, g0]; rfl
  refine ⟨.ok (.d (.lst (items.map f))), μ, ?_, he⟩
  show Rz.bind _ _ = _
  rw [e2]; simp only [Rz.bind_ok]
  have q1 : (μ ++ [Cell.lst ((items.map f).map Sv.d)])[μ.length]? = some (.lst ((items.map f).map Sv.d)) := by simp
  have q2 : (μ ++ [Cell.lst ((items.map f).map Sv.d)]).set μ.length .fz = μ ++ [.fz] := by simp
  simp only [frzV, q1, toDs_map, q2]
  rw [gc_app]
theorem Es_fzd {i : Nat} {S : Sz} {δ : Dl} {μ μ' : Mu} {v : Sv} {d : D} {R : Fl → Dl → Mu → Prop} (hv : δ[i]? = some (some v)) (hd : dpz 8 μ v = some (d, μ')) (h : Es (S (δ.set i (some (.d d))) μ') R) : Es (sFzD i S δ μ) R := by
  have : sFzD i S δ μ = S (δ.set i (some (.d d))) μ' := by simp [sFzD, hv, hd]
  rw [this]; exact h
section
variable {P : Except Exn Sv → Mu → Prop} {R : Fl → Dl → Mu → Prop} {δ : Dl} {μ : Mu}
@[simp] theorem gL_eq (h : List Sv → Dl → Option Dl) (l : List D) : gL h (.d (.lst l)) δ = h (l.map Sv.d) δ := rfl
@[simp] theorem Ev_setd (fo fk fv : Fz Sv) : Ev (fSetd fo fk fv δ μ) P = Ev (fo δ μ) (fun e μ => okc e (fun o => isDct o μ = true ∧ Ev (fk δ μ) (fun e μ => okc e (fun k => Ev (fv δ μ) (fun e μ => okc e (fun v => Ev (setdO o k v μ) P) (fun x => P (.error x) μ))) (fun x => P (.error x) μ))) (fun x => P (.error x) μ)) := by
  show Ev (Rz.bind _ _) _ = _
  rw [Ev_bind]; refine Ev_ext fun e μ => ?_; cases e
  · rfl
  · rename_i a; simp only [okc_ok]; by_cases h : isDct a μ = true <;> simp [h, Ev_bind] <;> exact Iff.of_eq (Ev_ext fun e μ => by cases e <;> simp [Ev_bind])
@[simp] theorem Ev_get2 (fo fk fv : Fz Sv) : Ev (fGet2 fo fk fv δ μ) P = Ev (fo δ μ) (fun e μ => okc e (fun o => isDct o μ = true ∧ Ev (fk δ μ) (fun e μ => okc e (fun k => Ev (fv δ μ) (fun e μ => okc e (fun v => Ev (getdO o k v μ) P) (fun x => P (.error x) μ))) (fun x => P (.error x) μ))) (fun x => P (.error x) μ)) := by
  show Ev (Rz.bind _ _) _ = _
  rw [Ev_bind]; refine Ev_ext fun e μ => ?_; cases e
  · rfl
  · rename_i a; simp only [okc_ok]; by_cases h : isDct a μ = true <;> simp [h, Ev_bind] <;> exact Iff.of_eq (Ev_ext fun e μ => by cases e <;> simp [Ev_bind])
theorem isDct_c {n : Nat} {kvs : List (Key × Sv)} (h : μ[n]? = some (.dct kvs)) : isDct (.c n) μ = true := by simp [isDct, h]
theorem Ev_setdO {n : Nat} {kvs : List (Key × Sv)} {k : Sv} {v : Sv} {key : Key} (h : μ[n]? = some (.dct kvs)) (hk : keyOf k = some key) (hl : kvs.length < 16777216) : Ev (setdO (.c n) k v μ) P = match lookK kvs key with
    | some x => P (.ok x) μ
    | none => P (.ok v) (μ.set n (.dct (putS kvs key v))) := by
  cases hx : lookK kvs key with
  | none =>
    have : setdO (.c n) k v μ = some (.ok v, μ.set n (.dct (putS kvs key v))) := by simp [setdO, h, hk, hl, hx]
    rw [this, Ev_some]
  | some x =>
    have : setdO (.c n) k v μ = some (.ok x, μ) := by simp [setdO, h, hk, hl, hx]
    rw [this, Ev_some]
theorem Ev_getdO {n : Nat} {kvs : List (Key × Sv)} {k : Sv} {v : Sv} {key : Key} (h : μ[n]? = some (.dct kvs)) (hk : keyOf k = some key) : Ev (getdO (.c n) k v μ) P = P (.ok ((lookK kvs key).getD v)) μ := by
  have : getdO (.c n) k v μ = some (.ok ((lookK kvs key).getD v), μ) := by simp [getdO, h, hk]
  rw [this, Ev_some]
theorem toBs_map : ∀ l : List Bool, toBs (l.map fun b => Sv.d (.bl b)) = some l
  | [] => rfl
  | x :: r => by simp [toBs, toBs_map r]
theorem toIs_map : ∀ l : List Int, toIs (l.map fun b => Sv.d (.int b)) = some l
  | [] => rfl
  | x :: r => by simp [toIs, toIs_map r]
@[simp] theorem bAll_l (l : List Bool) : bAll [.d (.lst (l.map D.bl))] μ = okz (.bl (l.all id)) μ := by
  show (match ((some ((l.map D.bl).map Sv.d)).bind toBs) with | some bs => okz (.bl (bs.all id)) μ | none => none) = _
  have : ((some ((l.map D.bl).map Sv.d)).bind toBs) = some l := by
    rw [Option.bind_some, List.map_map]; exact toBs_map l
  rw [this]
@[simp] theorem bSum_l (l : List Int) : bSum [.d (.lst (l.map D.int))] μ = okz (.int l.sum) μ := by
  show (match ((some ((l.map D.int).map Sv.d)).bind toIs) with | some bs => okz (.int bs.sum) μ | none => none) = _
  have : ((some ((l.map D.int).map Sv.d)).bind toIs) = some l := by
    rw [Option.bind_some, List.map_map]; exact toIs_map l
  rw [this]
@[simp] theorem bMin3_i (i j k : Int) : bMin3 [.d (.int i), .d (.int j), .d (.int k)] μ = okz (.int (min (min i j) k)) μ := by
  show okz (.int (if k < (if j < i then j else i) then k else (if j < i then j else i))) μ = _
  congr 2
  split <;> split at * <;> omega
@[simp] theorem Ev_LstC (fr : Fz (List Sv)) : Ev (fLstC fr δ μ) P = Ev (fr δ μ) (fun e μ => okc e (fun as => as.length ≤ 16777216 ∧ P (.ok (.c μ.length)) (μ ++ [.lst as])) (fun x => P (.error x) μ)) := by
  show Ev (Rz.bind _ _) _ = _
  rw [Ev_bind]; refine Ev_ext fun e μ => ?_; cases e
  · rfl
  · rename_i a; simp only [okc_ok]; by_cases h : a.length ≤ 16777216 <;> simp [h]
@[simp] theorem fDct_eq : fDct δ μ = some (.ok (.c μ.length), μ ++ [.dct []]) := rfl
def lrgO (a : Sv) (μ : Mu) : Rz Sv := match a with
  | .d (.int n) => if -(2 ^ 62) ≤ n ∧ n ≤ 16777216 then okz (.lst (rngD 0 n.toNat)) μ else none
  | _ => none
@[simp] theorem Ev_LRg (fa : Fz Sv) : Ev (fLRg fa δ μ) P = Ev (fa δ μ) (fun e μ => okc e (fun a => Ev (lrgO a μ) P) (fun x => P (.error x) μ)) := by
  show Ev (Rz.bind _ (fun a μ => lrgO a μ)) _ = _
  rw [Ev_bind]
@[simp] theorem lrgO_i (n : Int) : lrgO (.d (.int n)) μ = if -(2 ^ 62) ≤ n ∧ n ≤ 16777216 then okz (.lst (rngD 0 n.toNat)) μ else none := rfl
theorem Ev_app {n : Nat} {xs : List Sv} {y : Sv} (h : μ[n]? = some (.lst xs)) (hl : xs.length < 16777216) : Ev (mApp (.c n) [y] μ) P = P (.ok (.d .non)) (μ.set n (.lst (xs ++ [y]))) := by
  have : mApp (.c n) [y] μ = some (.ok (.d .non), μ.set n (.lst (xs ++ [y]))) := by simp [mApp, h, hl]
  rw [this, Ev_some]
theorem Ev_popI {n : Nat} {xs : List Sv} {i : Int} {k : Nat} {y : Sv} (h : μ[n]? = some (.lst xs)) (hk : L2.ixN xs.length i = some k) (hy : xs[k]? = some y) (hl : xs.length ≤ 16777216) : Ev (mPopI (.c n) [.d (.int i)] μ) P = P (.ok y) (μ.set n (.lst (xs.eraseIdx k))) := by
  have : mPopI (.c n) [.d (.int i)] μ = some (.ok y, μ.set n (.lst (xs.eraseIdx k))) := by simp [mPopI, h, hk, hy, hl]
  rw [this, Ev_some]
theorem tyS_lst {n : Nat} {xs : List Sv} (h : μ[n]? = some (.lst xs)) : tyS "list" μ (.c n) = true := by simp [tyS, h]
theorem dV_c {n : Nat} {xs : List D} (h : μ[n]? = some (.lst (xs.map Sv.d))) : dV μ (.c n) = some (.lst xs) := by simp [dV, h, toDs_map]
theorem Ev_eqc {a b : Sv} {x y : D} (ha : dV μ a = some x) (hb : dV μ b = some y) : Ev (oEq a b μ) P = eqc (eqD x y) fun r => P (.ok (.d (.bl r))) μ := by
  cases h : eqD x y with
  | none =>
    have : oEq a b μ = none := by simp [oEq, ha, hb, h]
    rw [this]; simp [eqc]
  | some r =>
    have : oEq a b μ = okz (.bl r) μ := by simp [oEq, ha, hb, h]
    rw [this]; simp
theorem Ev_nec {a b : Sv} {x y : D} (ha : dV μ a = some x) (hb : dV μ b = some y) : Ev (oNe a b μ) P = eqc (eqD x y) fun r => P (.ok (.d (.bl (!r)))) μ := by
  cases h : eqD x y with
  | none =>
    have : oNe a b μ = none := by simp [oNe, ha, hb, h]
    rw [this]; simp [eqc]
  | some r =>
    have : oNe a b μ = okz (.bl (!r)) μ := by simp [oNe, ha, hb, h]
    rw [this]; simp
theorem tgOf_c {n : Nat} {xs : List Sv} (h : μ[n]? = some (.lst xs)) : tgOf μ (.c n) = some (.b "list") := by simp [tgOf, h]
end
/- == of flat data -/
theorem eqD_refl_ok {a : D} {p : PyData} (h : a.py = some p) (hd : p.depth ≤ 60) (he : PyData.eqv p p = true) : eqD a a = some true := by
  simp [eqD, h, hd, he]

mutual
def D.ok : Nat → D → Bool
  | _, .non => true
  | _, .bl _ => true
  | _, .int _ => true
  | _, .str _ => true
  | 0, .lst _ => false
  | 0, .tup _ => false
  | n + 1, .lst l => D.okL n l
  | n + 1, .tup l => D.okL n l
  | _, .ins _ _ => false
  | _, .exc _ _ => false
def D.okL : Nat → List D → Bool
  | _, [] => true
  | n, x :: r => D.ok n x && D.okL n r
end
mutual
theorem ok_py : ∀ (n : Nat) (d : D), D.ok n d = true → ∃ p, d.py = some p ∧ p.depth ≤ n
  | n, .non, h => ⟨_, rfl, by simp [PyData.depth]⟩
  | n, .bl _, h => ⟨_, rfl, by simp [PyData.depth]⟩
  | n, .int _, h => ⟨_, rfl, by simp [PyData.depth]⟩
  | n, .str _, h => ⟨_, rfl, by simp [PyData.depth]⟩
  | 0, .lst _, h => by simp [D.ok] at h
  | 0, .tup _, h => by simp [D.ok] at h
  | n + 1, .lst l, h => by
    obtain ⟨ps, e, hd⟩ := okL_py n l (by simpa [D.ok] using h)
    exact ⟨.list ps, by simp only [D.py, e, Option.map_some], by simp [PyData.depth]; omega⟩
  | n + 1, .tup l, h => by
    obtain ⟨ps, e, hd⟩ := okL_py n l (by simpa [D.ok] using h)
    exact ⟨.tuple ps, by simp only [D.py, e, Option.map_some], by simp [PyData.depth]; omega⟩
  | n, .ins _ _, h => by cases n <;> simp [D.ok] at h
  | n, .exc _ _, h => by cases n <;> simp [D.ok] at h
theorem okL_py : ∀ (n : Nat) (l : List D), D.okL n l = true → ∃ ps, D.py.pys l = some ps ∧ PyData.depthAll ps ≤ n
  | n, [], h => ⟨[], by simp [D.py.pys], by simp [PyData.depthAll]⟩
  | n, x :: r, h => by
    simp only [D.okL, Bool.and_eq_true] at h
    obtain ⟨p, e, hd⟩ := ok_py n x h.1
    obtain ⟨ps, e2, hd2⟩ := okL_py n r h.2
    exact ⟨p :: ps, by simp only [D.py.pys, e, e2, Option.bind_some, Option.map_some], by simp only [PyData.depthAll]; omega⟩
end
theorem okL_of {n : Nat} : ∀ {l : List D}, (∀ x ∈ l, D.ok n x = true) → D.okL n l = true
  | [], _ => by simp [D.okL]
  | x :: r, h => by
    simp only [D.okL, Bool.and_eq_true]
    exact ⟨h x (by simp), okL_of fun y hy => h y (by simp [hy])⟩
theorem eqD_refl {d : D} (n : Nat) (h : D.ok n d = true) (hn : n ≤ 60 := by decide) : eqD d d = some true := by
  obtain ⟨p, e, hd⟩ := ok_py n d h
  have h1 : min p.depth p.depth ≤ 60 := by omega
  simp only [eqD, e, Option.bind_some, if_pos h1, PySem.SeqAt.eqv_refl_plain p (py_plain d p e)]
/- a comprehension that stays a cell -/
theorem lcC_run {δ : Dl} {μ : Mu} {fi : Fz (List Sv)} {vs : List Nat} {g : Tz} {c : Fz Bool} {e : Fz Sv} (items : List Sv) (hi : fi δ μ = some (.ok items, μ)) (hn : items.length ≤ 16777216) (I : Nat → List D → Mu → Prop) (h0 : I 0 [] μ)
    (hs : ∀ (i : Nat) (x : Sv) (acc : List D) (μ' : Mu), items[i]? = some x → acc.length ≤ i → μ'.length = μ.length → I i acc μ' → someD (g x (wipeZ δ vs)) fun δ1 => Ev (c δ1 (μ' ++ [.lst (acc.map Sv.d)])) fun r μ2 => ∃ b, r = .ok b ∧
      if b = true then Ev (e δ1 μ2) fun r μ3 => ∃ y μ'', r = .ok (.d y) ∧ μ3 = μ'' ++ [.lst (acc.map Sv.d)] ∧ μ''.length = μ.length ∧ I (i + 1) (acc ++ [y]) μ''
      else ∃ μ'', μ2 = μ'' ++ [.lst (acc.map Sv.d)] ∧ μ''.length = μ.length ∧ I (i + 1) acc μ'') :
    ∃ acc μ1, fLcC fi vs g c e δ μ = some (.ok (.c μ.length), μ1 ++ [.lst (acc.map Sv.d)]) ∧ acc.length ≤ items.length ∧ μ1.length = μ.length ∧ I items.length acc μ1 := by
  have go : ∀ (xs : List Sv) (j : Nat) (acc : List D) (μ' : Mu), (∀ i x, xs[i]? = some x → items[j + i]? = some x) → j + xs.length = items.length → acc.length ≤ j → μ'.length = μ.length → I j acc μ' → ∃ acc' μ'', lcL g c e μ.length (wipeZ δ vs) xs (μ' ++ [.lst (acc.map Sv.d)]) = some (μ'' ++ [.lst (acc'.map Sv.d)]) ∧ acc'.length ≤ items.length ∧ μ''.length = μ.length ∧ I items.length acc' μ'' := by
    intro xs
    induction xs with
    | nil =>
      intro j acc μ' hd hj hl hm h
      simp at hj; subst hj
      exact ⟨acc, μ', rfl, hl, hm, h⟩
    | cons x xs ih =>
      intro j acc μ' hd hj hl hm h
      simp only [List.length_cons] at hj
      have a := hs j x acc μ' (hd 0 x rfl) hl hm h
      cases hg : g x (wipeZ δ vs) with
      | none => rw [hg] at a; exact a.elim
      | some δ1 =>
        rw [hg] at a
        obtain ⟨r, μ2, e1, b, rfl, p⟩ := a
        have hd' : ∀ i y, xs[i]? = some y → items[j + 1 + i]? = some y := fun i y q => by
          have := hd (i + 1) y q
          rwa [show j + (i + 1) = j + 1 + i by omega] at this
        cases b with
        | true =>
          simp only [if_true] at p
          obtain ⟨r, μ3, e2, y, μ4, rfl, rfl, h4, i4⟩ := p
          obtain ⟨acc', μ5, e5, l5, m5, i5⟩ := ih (j + 1) (acc ++ [y]) μ4 hd' (by omega) (by simp; omega) h4 i4
          refine ⟨acc', μ5, ?_, l5, m5, i5⟩
          have q1 : (μ4 ++ [Cell.lst (acc.map Sv.d)])[μ.length]? = some (.lst (acc.map Sv.d)) := by
            rw [List.getElem?_append_right (by omega)]; simp [h4]
          have q2 : (μ4 ++ [Cell.lst (acc.map Sv.d)]).set μ.length (.lst (acc.map Sv.d ++ [.d y])) = μ4 ++ [.lst ((acc ++ [y]).map Sv.d)] := by
            rw [List.set_append_right _ _ (by omega)]; simp [h4]
          simp only [lcL, hg, e1, e2, q1]
          rw [if_pos (by simp; omega), q2, e5]
        | false =>
          simp only [Bool.false_eq_true, if_false] at p
          obtain ⟨μ4, rfl, h4, i4⟩ := p
          obtain ⟨acc', μ5, e5, l5, m5, i5⟩ := ih (j + 1) acc μ4 hd' (by omega) (by omega) h4 i4
          refine ⟨acc', μ5, ?_, l5, m5, i5⟩
          simp only [lcL, hg, e1, e5]
  obtain ⟨acc, μ1, e1, hl, hm, h1⟩ := go items 0 [] μ (fun i x h => by simpa using h) (by simp) (by simp) rfl h0
  refine ⟨acc, μ1, ?_, hl, hm, h1⟩
  show Rz.bind (fi δ μ) _ = _
  rw [hi]; simp only [Rz.bind_ok]
  have : (μ ++ [Cell.lst []]) = μ ++ [.lst (([] : List D).map Sv.d)] := rfl
  rw [this, e1]
/- the plain comprehension: no state is touched, a filter and a map -/
theorem lcL_pure {δ : Dl} {μ : Mu} {g : Tz} {c : Fz Bool} {e : Fz Sv} (p : Sv → Bool) (f : Sv → D) : ∀ (xs : List Sv) (acc : List D), acc.length + xs.length ≤ 16777216 →
    (∀ (x : Sv) (acc : List D), x ∈ xs → ∃ δ1, g x δ = some δ1 ∧ c δ1 (μ ++ [.lst (acc.map Sv.d)]) = some (.ok (p x), μ ++ [.lst (acc.map Sv.d)]) ∧ (p x = true → e δ1 (μ ++ [.lst (acc.map Sv.d)]) = some (.ok (.d (f x)), μ ++ [.lst (acc.map Sv.d)]))) →
    lcL g c e μ.length δ xs (μ ++ [.lst (acc.map Sv.d)]) = some (μ ++ [.lst ((acc ++ (xs.filter p).map f).map Sv.d)])
  | [], acc, _, _ => by simp [lcL]
  | x :: xs, acc, hl, hs => by
    simp only [List.length_cons] at hl
    obtain ⟨δ1, e1, e2, e3⟩ := hs x acc (by simp)
    cases hp : p x with
    | false =>
      rw [hp] at e2
      simp only [lcL, e1, e2]
      rw [lcL_pure p f xs acc (by omega) fun y a hy => hs y a (by simp [hy])]
      simp [hp]
    | true =>
      rw [hp] at e2
      have q1 : (μ ++ [Cell.lst (acc.map Sv.d)])[μ.length]? = some (.lst (acc.map Sv.d)) := by simp
      have q2 : (μ ++ [Cell.lst (acc.map Sv.d)]).set μ.length (.lst (acc.map Sv.d ++ [.d (f x)])) = μ ++ [.lst ((acc ++ [f x]).map Sv.d)] := by simp
      simp only [lcL, e1, e2, e3 hp, q1]
      rw [if_pos (by simp; omega), q2, lcL_pure p f xs (acc ++ [f x]) (by simp; omega) fun y a hy => hs y a (by simp [hy])]
      simp [hp]
theorem lcC_pure {δ : Dl} {μ : Mu} {fi : Fz (List Sv)} {vs : List Nat} {g : Tz} {c : Fz Bool} {e : Fz Sv} (items : List Sv) (hi : fi δ μ = some (.ok items, μ)) (hn : items.length ≤ 16777216) (p : Sv → Bool) (f : Sv → D)
    (hs : ∀ (x : Sv) (acc : List D), x ∈ items → ∃ δ1, g x (wipeZ δ vs) = some δ1 ∧ c δ1 (μ ++ [.lst (acc.map Sv.d)]) = some (.ok (p x), μ ++ [.lst (acc.map Sv.d)]) ∧ (p x = true → e δ1 (μ ++ [.lst (acc.map Sv.d)]) = some (.ok (.d (f x)), μ ++ [.lst (acc.map Sv.d)]))) :
    fLcC fi vs g c e δ μ = some (.ok (.c μ.length), μ ++ [.lst (((items.filter p).map f).map Sv.d)]) := by
  show Rz.bind (fi δ μ) _ = _
  rw [hi]; simp only [Rz.bind_ok]
  have : (μ ++ [Cell.lst []]) = μ ++ [.lst (([] : List D).map Sv.d)] := rfl
  rw [this, lcL_pure p f items [] (by simpa using hn) hs]
  simp
theorem lcF_pure {δ : Dl} {μ : Mu} {fi : Fz (List Sv)} {vs : List Nat} {g : Tz} {c : Fz Bool} {e : Fz Sv} (items : List Sv) (hi : fi δ μ = some (.ok items, μ)) (hn : items.length ≤ 16777216) (p : Sv → Bool) (f : Sv → D)
    (hs : ∀ (x : Sv) (acc : List D), x ∈ items → ∃ δ1, g x (wipeZ δ vs) = some δ1 ∧ c δ1 (μ ++ [.lst (acc.map Sv.d)]) = some (.ok (p x), μ ++ [.lst (acc.map Sv.d)]) ∧ (p x = true → e δ1 (μ ++ [.lst (acc.map Sv.d)]) = some (.ok (.d (f x)), μ ++ [.lst (acc.map Sv.d)]))) :
    fFrz (fLcC fi vs g c e) δ μ = some (.ok (.d (.lst ((items.filter p).map f))), μ) := by
  show Rz.bind _ _ = _
  rw [lcC_pure items hi hn p f hs]; simp only [Rz.bind_ok]
  have q1 : (μ ++ [Cell.lst (((items.filter p).map f).map Sv.d)])[μ.length]? = some (.lst (((items.filter p).map f).map Sv.d)) := by simp
  have q2 : (μ ++ [Cell.lst (((items.filter p).map f).map Sv.d)]).set μ.length .fz = μ ++ [.fz] := by simp
  simp only [frzV, q1, toDs_map, q2]
  rw [gc_app]
theorem Ev_of {α : Type} {r : Rz α} {a : Except Exn α} {μ : Mu} {P : Except Exn α → Mu → Prop} (h : r = some (a, μ)) (p : P a μ) : Ev r P := ⟨_, _, h, p⟩
theorem of_Ev {α : Type} {r : Rz α} {a : Except Exn α} {μ : Mu} (h : Ev r fun e μ' => e = a ∧ μ' = μ) : r = some (a, μ) := by
  obtain ⟨_, _, e, rfl, rfl⟩ := h
  exact e
end Z
namespace Z
open PySem PySem.Spec PyProof.Rows L2
theorem lcC_from {δ : Dl} {μ μ1 : Mu} {fi : Fz (List Sv)} {vs : List Nat} {g : Tz} {c : Fz Bool} {e : Fz Sv} {items : List Sv} (hi : fi δ μ = some (.ok items, μ1)) : fLcC fi vs g c e δ μ = fLcC (fun _ m => some (.ok items, m)) vs g c e δ μ1 := by
  show Rz.bind (fi δ μ) _ = Rz.bind (some (.ok items, μ1)) _
  rw [hi]
/-- a comprehension that is a tree, what it goes over drawn first -/
theorem Ev_lcF2 {P : Except Exn Sv → Mu → Prop} {δ : Dl} {μ μ1 : Mu} {fi : Fz (List Sv)} {vs : List Nat} {g : Tz} {c : Fz Bool} {e : Fz Sv} {items : List Sv} (hi : fi δ μ = some (.ok items, μ1)) (hL : μ1.length = μ.length) (hn : items.length ≤ 16777216) (I : Nat → List D → Mu → Prop) (h0 : I 0 [] μ1)
    (hs : ∀ (i : Nat) (x : Sv) (acc : List D) (μ' : Mu), items[i]? = some x → acc.length ≤ i → μ'.length = μ.length → I i acc μ' → someD (g x (wipeZ δ vs)) fun δ1 => Ev (c δ1 (μ' ++ [.lst (acc.map Sv.d)])) fun r μ2 => ∃ b, r = .ok b ∧
      if b = true then Ev (e δ1 μ2) fun r μ3 => ∃ y μ'', r = .ok (.d y) ∧ μ3 = μ'' ++ [.lst (acc.map Sv.d)] ∧ μ''.length = μ.length ∧ I (i + 1) (acc ++ [y]) μ''
      else ∃ μ'', μ2 = μ'' ++ [.lst (acc.map Sv.d)] ∧ μ''.length = μ.length ∧ I (i + 1) acc μ'')
    (he : ∀ acc μ', acc.length ≤ items.length → μ'.length = μ.length → I items.length acc μ' → Lk μ μ' ∧ P (.ok (.d (.lst acc))) μ') : Ev (fFrz (fLcC fi vs g c e) δ μ) P := by
  rw [← hL] at hs
  obtain ⟨acc, μ2, e2, hl, hm, h1⟩ := lcC_run (fi := fun _ m => some (.ok items, m)) (μ := μ1) items rfl hn I h0 hs
  rw [← lcC_from hi] at e2
  obtain ⟨hk, hp⟩ := he acc μ2 hl (by omega) h1
  refine ⟨.ok (.d (.lst acc)), μ2, ?_, hp⟩
  show Rz.bind _ _ = _
  rw [e2]; simp only [Rz.bind_ok]
  have q1 : (μ2 ++ [Cell.lst (acc.map Sv.d)])[μ1.length]? = some (.lst (acc.map Sv.d)) := by
    rw [List.getElem?_append_right (by omega)]; simp [hm]
  have q2 : (μ2 ++ [Cell.lst (acc.map Sv.d)]).set μ1.length .fz = μ2 ++ [.fz] := by
    rw [List.set_append_right _ _ (by omega)]; simp [hm]
  simp only [frzV, q1, toDs_map, q2, gc_lk hk (show μ2.length = μ.length by omega)]
/-- what lies behind the cells of before -/
def Kp (μ0 μ : Mu) : Prop := ∃ t, μ = μ0 ++ t
theorem Kp.refl (μ : Mu) : Kp μ μ := ⟨[], by simp⟩
theorem Kp.app {μ0 μ : Mu} (h : Kp μ0 μ) (t : Mu) : Kp μ0 (μ ++ t) := let ⟨u, e⟩ := h; ⟨u ++ t, by simp [e]⟩
theorem Kp.set {μ0 μ : Mu} (h : Kp μ0 μ) {n : Nat} (hn : μ0.length ≤ n) (c : Cell) : Kp μ0 (μ.set n c) := by
  obtain ⟨u, rfl⟩ := h
  exact ⟨u.set (n - μ0.length) c, List.set_append_right _ _ hn⟩
theorem Kp.gc {μ0 μ : Mu} (h : Kp μ0 μ) : gcM μ0 μ = μ0 := by
  obtain ⟨u, rfl⟩ := h
  exact gc_app ..
theorem Kp.trans {a b c : Mu} (h : Kp a b) (k : Kp b c) : Kp a c := by
  obtain ⟨t, rfl⟩ := h
  obtain ⟨u, rfl⟩ := k
  exact ⟨t ++ u, by simp⟩
theorem Kp.le {a b : Mu} (h : Kp a b) : a.length ≤ b.length := by
  obtain ⟨t, rfl⟩ := h
  simp
/- dicts by their keys -/
def strK (s : List Nat) : Key := .inr ⟨s.toArray⟩
theorem strK_inj {s t : List Nat} (h : strK s = strK t) : s = t := by
  unfold strK at h
  have := Sum.inr.inj h
  have := congrArg (fun z : Str => z.cps.toList) this
  simpa using this
theorem lookK_nil (k : Key) : lookK [] k = none := rfl
theorem lookK_cons (k' k : Key) (v : Sv) (r : List (Key × Sv)) : lookK ((k', v) :: r) k = if k' = k then some v else lookK r k := by
  unfold lookK
  rw [List.find?_cons]
  by_cases h : k' = k <;> simp [h]
theorem lookK_mapne {k k' : Key} {v : Sv} (h : k ≠ k') : ∀ kvs : List (Key × Sv), lookK (kvs.map fun kv => if kv.1 = k then (kv.1, v) else kv) k' = lookK kvs k'
  | [] => rfl
  | (k1, v1) :: r => by
    by_cases h1 : k1 = k
    · subst h1
      simp only [List.map_cons, if_true]
      rw [lookK_cons, lookK_cons, if_neg h, if_neg h, lookK_mapne h r]
    · simp only [List.map_cons, if_neg h1]
      rw [lookK_cons, lookK_cons, lookK_mapne h r]
theorem lookK_mapself {k : Key} {v : Sv} : ∀ kvs : List (Key × Sv), (kvs.any fun kv => decide (kv.1 = k)) = true → lookK (kvs.map fun kv => if kv.1 = k then (kv.1, v) else kv) k = some v
  | [], h => by simp at h
  | (k1, v1) :: r, h => by
    by_cases h1 : k1 = k
    · subst h1
      simp only [List.map_cons, if_true]
      rw [lookK_cons, if_pos rfl]
    · simp only [List.map_cons, if_neg h1]
      rw [lookK_cons, if_neg h1]
      exact lookK_mapself r (by simpa [h1] using h)
theorem lookK_app (k k' : Key) (v : Sv) : ∀ kvs : List (Key × Sv), lookK (kvs ++ [(k, v)]) k' = (lookK kvs k').or (if k = k' then some v else none)
  | [] => by rw [List.nil_append, lookK_cons, lookK_nil]; simp [lookK_nil]
  | (k1, v1) :: r => by
    rw [List.cons_append, lookK_cons, lookK_cons, lookK_app k k' v r]
    by_cases h : k1 = k' <;> simp [h]
theorem lookK_any (k : Key) : ∀ kvs : List (Key × Sv), (kvs.any fun kv => decide (kv.1 = k)) = (lookK kvs k).isSome
  | [] => rfl
  | (k1, v1) :: r => by
    rw [lookK_cons, List.any_cons, lookK_any k r]
    by_cases h : k1 = k <;> simp [h]
theorem lookK_put (kvs : List (Key × Sv)) (k : Key) (v : Sv) (k' : Key) : lookK (putS kvs k v) k' = if k = k' then some v else lookK kvs k' := by
  unfold putS
  split
  · rename_i h
    by_cases e : k = k'
    · subst e; rw [if_pos rfl]; exact lookK_mapself kvs h
    · rw [if_neg e]; exact lookK_mapne e kvs
  · rename_i h
    rw [lookK_app]
    rw [lookK_any] at h
    by_cases e : k = k'
    · subst e
      cases hx : lookK kvs k with
      | none => simp
      | some y => rw [hx] at h; simp at h
    · simp [e]
theorem putS_len (kvs : List (Key × Sv)) (k : Key) (v : Sv) : (putS kvs k v).length ≤ kvs.length + 1 := by
  unfold putS; split <;> simp
theorem pys_ints : ∀ l : List Int, D.py.pys (l.map D.int) = some (l.map PyData.int)
  | [] => by simp [D.py.pys]
  | x :: r => by simp [D.py.pys, pys_ints r, D.py]
theorem eqD_ints_nil (l : List Int) : eqD (.lst (l.map D.int)) (.lst []) = some (decide (l = [])) := by
  simp only [eqD, D.py, pys_ints, Option.map_some, Option.bind_some, D.py.pys]
  have : (PyData.list ([] : List PyData)).depth = 1 := rfl
  rw [if_pos (by rw [this]; omega)]
  cases l <;> rfl
end Z
namespace Z
open PySem PySem.Spec PyProof.Rows L2
theorem Ev_frzC {P : Except Exn Sv → Mu → Prop} {δ : Dl} {μ : Mu} {fa : Fz Sv} {n : Nat} {l : List D} (ha : fa δ μ = some (.ok (.c n), μ)) (hn : μ[n]? = some (.lst (l.map Sv.d))) (p : P (.ok (.d (.lst l))) (μ.set n .fz)) : Ev (fFrz fa δ μ) P := by
  refine ⟨_, _, ?_, p⟩
  show Rz.bind _ _ = _
  rw [ha]; simp only [Rz.bind_ok, frzV, hn, toDs_map]
  rw [gc_len (by simp)]
end Z
namespace Z
open PySem PySem.Spec PyProof.Rows L2
theorem dpzL_map (k : Nat) (μ : Mu) (l : List D) : dpzL k μ (l.map Sv.d) = some (l, μ) := by
  induction l with
  | nil => simp [dpzL]
  | cons x r ih => simp [dpzL, dpz, ih]
theorem dpz_lst {k : Nat} {μ μ' : Mu} {n : Nat} {xs : List Sv} {ds : List D} (h : μ[n]? = some (.lst xs)) (e : dpzL k (μ.set n .fz) xs = some (ds, μ')) : dpz (k + 1) μ (.c n) = some (.lst ds, μ') := by
  simp [dpz, h, e]
theorem dpzL_cons {k : Nat} {μ μ1 μ2 : Mu} {x : Sv} {r : List Sv} {d : D} {ds : List D} (h : dpz k μ x = some (d, μ1)) (e : dpzL k μ1 r = some (ds, μ2)) : dpzL k μ (x :: r) = some (d :: ds, μ2) := by
  simp [dpzL, h, e]
theorem dpzL_nil (k : Nat) (μ : Mu) : dpzL k μ [] = some ([], μ) := by simp [dpzL]
end Z
namespace Z
open PySem PySem.Spec PyProof.Rows L2
/-! ### walks over what stands while it is walked: a check before each turn -/
abbrev Chk := Mu → Prop
structure Wk where
  items : List Sv
  chk : Chk
def WalkC (G : Gx) (F : Hp) (ρ : List Addr) (J : It) (k : Wk) : Prop := ∀ F' ρ' μ' H', Gr F F' ρ ρ' → Wf G F' ρ' μ' H' → k.chk μ' → ∀ i : Nat,
  (k.items.length ≤ i → J.stop i H') ∧ ∀ y, k.items[i]? = some y → J.go i H' ∧ ∀ x H'', J.yld i H' x H'' → ∃ F'' ρ'', Gr F' F'' ρ' ρ'' ∧ Wf G F'' ρ'' μ' H'' ∧ Rs G F'' ρ'' x y
theorem WalkC.mono {G : Gx} {F F1 : Hp} {ρ ρ1 : List Addr} {J : It} {k : Wk} (g : Gr F F1 ρ ρ1) (h : WalkC G F ρ J k) : WalkC G F1 ρ1 J k := fun F' ρ' μ' H' g' w c => h F' ρ' μ' H' (g.trans g') w c
abbrev zW (G : Gx) (W : WX) (f : Fz Wk) : TI := zG G W (WalkC G) f
open Classical in
noncomputable def forLW (ck : Chk) (g : Tz) (S : Sz) : List Sv → Sz
  | [], δ, μ => if ck μ then some (.nx, δ, μ) else none
  | x :: xs, δ, μ => if ck μ then (match g x δ with
    | none => none
    | some δ1 => match S δ1 μ with
      | some (.nx, δ2, μ2) => forLW ck g S xs δ2 μ2
      | some (.ct, δ2, μ2) => forLW ck g S xs δ2 μ2
      | some (.bk, δ2, μ2) => some (.nx, δ2, μ2)
      | r => r) else none
noncomputable def sForW (fi : Fz Wk) (g : Tz) (S : Sz) : Sz := fun δ μ => eS (fi δ μ) δ fun k μ => forLW k.chk g S k.items δ μ
open Classical in
noncomputable def lcLW (ck : Chk) (g : Tz) (c : Fz Bool) (e : Fz Sv) (n : Nat) (δ : Dl) : List Sv → Mu → Option Mu
  | [], μ => if ck μ then some μ else none
  | x :: xs, μ => if ck μ then (match g x δ with
    | none => none
    | some δ1 => match c δ1 μ with
      | some (.ok true, μ1) => match e δ1 μ1 with
        | some (.ok y, μ2) => match μ2[n]? with
          | some (.lst acc) => if acc.length < 16777216 then lcLW ck g c e n δ xs (μ2.set n (.lst (acc ++ [y]))) else none
          | _ => none
        | _ => none
      | some (.ok false, μ1) => lcLW ck g c e n δ xs μ1
      | _ => none) else none
noncomputable def fLcW (fi : Fz Wk) (vs : List Nat) (g : Tz) (c : Fz Bool) (e : Fz Sv) : Fz Sv := fun δ μ => (fi δ μ).bind fun k μ => match lcLW k.chk g c e μ.length (wipeZ δ vs) k.items (μ ++ [.lst []]) with
  | some μ' => some (.ok (.c μ.length), μ')
  | none => none
section
variable {G : Gx} {X : Cx} {W : WX} {tg iter c elt : Expr} {ifs : List Expr} {body : List Stmt} {fi : Fz Wk} {t : TG} {g : Tz} {S : Sz} {js : List Nat} {pos : Pos} {fc : Fz Bool} {fe : Fz Sv} {w : TI} {scope : Scope} {own : List (Str × Nat)}
theorem forW_reads (zg : ZG G js t g) {D : Ends} {σ : L2.St} {H : Hp} (q : zS G W (sForW fi g S) D σ H) : tFor (zW G W fi) t (zS G W S) D σ H := by
  obtain ⟨F, ρ, δ, μ, r, w, s, e, p⟩ := q
  refine zstepS w s e p fun k μ1 J F1 ρ1 H1 g1 w1 s1 wk e1 p1 => ?_
  refine ⟨fun i m σ' H' => m = k.items.length - i ∧ i ≤ k.items.length ∧ ∃ F' ρ' δ' μ', Gr F1 F' ρ1 ρ' ∧ Wf G F' ρ' μ' H' ∧ Sl G F' ρ' σ' δ' ∧ forLW k.chk g S (k.items.drop i) δ' μ' = some r,
    ⟨k.items.length, rfl, Nat.zero_le _, F1, ρ1, δ, μ1, Gr.refl _ _, w1, s1, e1⟩, ?_⟩
  rintro i m σ' H' ⟨rfl, hi, F', ρ', δ', μ', g', w', s', e'⟩
  by_cases hlt : i < k.items.length
  · have hd : k.items.drop i = k.items[i] :: k.items.drop (i + 1) := List.drop_eq_getElem_cons hlt
    rw [hd] at e'
    unfold forLW at e'
    split at e'
    case isFalse => cases e'
    rename_i hck
    obtain ⟨go, yl⟩ := (wk F' ρ' μ' H' g' w' hck i).2 k.items[i] (List.getElem?_eq_getElem hlt)
    refine .inr ⟨go, fun σ2 H2 => ∃ F2 ρ2 δ2 μ2, Gr F1 F2 ρ1 ρ2 ∧ Wf G F2 ρ2 μ2 H2 ∧ Sl G F2 ρ2 σ2 δ2 ∧ forLW k.chk g S (k.items.drop (i + 1)) δ2 μ2 = some r, fun σ2 H2 ⟨F2, ρ2, δ2, μ2, g2, w2, s2, e2⟩ => ⟨k.items.length - (i + 1), by omega, rfl, hlt, F2, ρ2, δ2, μ2, g2, w2, s2, e2⟩, fun x H2 hy => ?_⟩
    obtain ⟨F2, ρ2, gy, wy, rx⟩ := yl x H2 hy
    cases hg : g k.items[i] δ' with
    | none => simp [hg] at e'
    | some δ1 =>
      simp only [hg] at e'
      refine zg.ok F2 ρ2 μ' H2 σ' δ' δ1 x _ _ wy (s'.mono gy) rx hg fun σ3 _ s3 => ?_
      cases hS : S δ1 μ' with
      | none => simp [hS] at e'
      | some q =>
        obtain ⟨fl, δ4, μ4⟩ := q
        have gg : Gr F1 F2 ρ1 ρ2 := g'.trans gy
        refine ⟨F2, ρ2, δ1, μ', _, wy, s3, hS, ?_⟩
        cases fl with
        | nx => simp only [hS] at e'; exact fun σ5 F5 ρ5 H5 g5 w5 s5 => ⟨F5, ρ5, δ4, μ4, gg.trans g5, w5, s5, e'⟩
        | ct => simp only [hS] at e'; exact fun σ5 F5 ρ5 H5 g5 w5 s5 => ⟨F5, ρ5, δ4, μ4, gg.trans g5, w5, s5, e'⟩
        | bk => simp only [hS] at e'; cases e'; exact fun σ5 F5 ρ5 H5 g5 w5 s5 => p1 σ5 F5 ρ5 H5 (gg.trans g5) w5 s5
        | rt v => simp only [hS] at e'; cases e'; exact fun a F5 ρ5 H5 g5 w5 s5 => p1 a F5 ρ5 H5 (gg.trans g5) w5 s5
        | ex v => simp only [hS] at e'; cases e'; exact fun c d σ5 F5 ρ5 H5 g5 w5 s5 => p1 c d σ5 F5 ρ5 H5 (gg.trans g5) w5 s5
  · have hi' : k.items.length ≤ i := by omega
    rw [List.drop_eq_nil_of_le hi'] at e'
    unfold forLW at e'
    split at e'
    case isFalse => cases e'
    rename_i hck
    refine .inl ⟨(wk F' ρ' μ' H' g' w' hck i).1 hi', ?_⟩
    cases e'
    exact p1 σ' F' ρ' H' g' w' s'
theorem zs_forW (hp : PassesOwn (model X.prog X.w) X.A X.env X.xe) (hc : X.calm = true) (hi : PI X tg iter (zW G W fi)) (hg : PG X tg t) (zg : ZG G js t g) (hb : PSs X body (zS G W S)) (hs : ∀ x, foldedSetIterable iter X.env x = pure x := by intro _; rfl) :
    PS X (.For tg iter body [] pos) (zS G W (sForW fi g S)) := psImp (ps_for hp hc hi hg hb hs) fun _ _ _ q => forW_reads zg q
theorem lcW_reads (zg : ZG G js t g) (hj : ∀ j ∈ js, j ∈ own.map (·.2)) {σ : L2.St} {H : Hp} {Q : VK} (q : zE G W (fLcW fi (own.map (·.2)) g fc fe) σ H Q) : tLc (zW G W fi) t (zT G W0 fc) (zE G W0 fe) (own.map (·.2)) σ H Q := by
  obtain ⟨F, ρ, δ, μ, r, w, s, e, p⟩ := q
  refine zstep w s e p fun k μ1 J F1 ρ1 H1 g1 w1 s1 wk e1 p1 => ?_
  intro Dn hD
  split at e1
  case h_2 => cases e1
  rename_i μe he
  cases e1
  obtain ⟨w2, g2⟩ := w1.newC (p := Dn) hD (o := .lst []) (c := .lst []) ⟨w1.ex.none hD, [], upd_same, .nil⟩
  refine ⟨fun i m H' => m = k.items.length - i ∧ i ≤ k.items.length ∧ ∃ F' ρ' μ', Gr F1 F' (ρ1 ++ [Dn]) ρ' ∧ Wf G F' ρ' μ' H' ∧ lcLW k.chk g fc fe μ1.length (wipeZ δ (own.map (·.2))) (k.items.drop i) μ' = some μe,
    ⟨k.items.length, rfl, Nat.zero_le _, F1, ρ1 ++ [Dn], _, Gr.refl _ _, w2, he⟩, ?_⟩
  rintro i m H' ⟨rfl, hi, F', ρ', μ', g', w', e'⟩
  have nD : ρ'[μ1.length]? = some Dn := g'.at (by rw [← w1.len]; simp)
  by_cases hlt : i < k.items.length
  · have hd : k.items.drop i = k.items[i] :: k.items.drop (i + 1) := List.drop_eq_getElem_cons hlt
    rw [hd] at e'
    unfold lcLW at e'
    split at e'
    case isFalse => cases e'
    rename_i hck
    obtain ⟨go, yl⟩ := (wk F' ρ' μ' H' (g2.trans g') w' hck i).2 k.items[i] (List.getElem?_eq_getElem hlt)
    refine .inr ⟨go, fun H2 => ∃ F2 ρ2 μ2, Gr F1 F2 (ρ1 ++ [Dn]) ρ2 ∧ Wf G F2 ρ2 μ2 H2 ∧ lcLW k.chk g fc fe μ1.length (wipeZ δ (own.map (·.2))) (k.items.drop (i + 1)) μ2 = some μe, fun H2 ⟨F2, ρ2, μ2, g2, w2, e2⟩ => ⟨k.items.length - (i + 1), by omega, rfl, hlt, F2, ρ2, μ2, g2, w2, e2⟩, fun x H2 hy => ?_⟩
    obtain ⟨F2, ρ2, gy, wy, rx⟩ := yl x H2 hy
    cases hg : g k.items[i] (wipeZ δ (own.map (·.2))) with
    | none => simp [hg] at e'
    | some δ1 =>
      simp only [hg] at e'
      refine zg.ok F2 ρ2 μ' H2 _ _ δ1 x _ _ wy (((s1.mono g2).mono (g'.trans gy)).wipe _) rx hg fun σ3 b3 s3 => ⟨wipe_same hj b3, ?_⟩
      cases hc : fc δ1 μ' with
      | none => simp [hc] at e'
      | some q =>
        obtain ⟨b, μ3⟩ := q
        refine ⟨F2, ρ2, δ1, μ', _, wy, s3, hc, ?_⟩
        cases b with
        | error x => simp [hc] at e'
        | ok b =>
          intro bb F3 ρ3 H3 g3 w3 ebb
          subst ebb
          cases bb with
          | false =>
            simp only [hc] at e'
            exact ⟨F3, ρ3, μ3, (g'.trans gy).trans g3, w3, e'⟩
          | true =>
            simp only [hc] at e'
            simp only [if_true]
            cases hf : fe δ1 μ3 with
            | none => simp [hf] at e'
            | some q =>
              obtain ⟨y, μ4⟩ := q
              refine ⟨F3, ρ3, δ1, μ3, _, w3, s3.mono g3, hf, ?_⟩
              cases y with
              | error x => simp [hf] at e'
              | ok y =>
                intro vy F4 ρ4 H4 g4 w4 ry
                simp only [hf] at e'
                have gall : Gr F1 F4 (ρ1 ++ [Dn]) ρ4 := ((g'.trans gy).trans g3).trans g4
                have nD4 : ρ4[μ1.length]? = some Dn := gall.at (by rw [← w1.len]; simp)
                split at e'
                · rename_i acc hacc
                  split at e'
                  · rename_i hlen
                    obtain ⟨h0, vs, h1, h2⟩ := w4.cell _ _ _ nD4 hacc
                    refine ⟨vs, h1, by rw [h2.len]; exact hlen, F4, ρ4, _, gall, w4.setC nD4 h0 (show CellOk G F4 ρ4 _ Dn (.lst (acc ++ [y])) from ⟨h0, vs ++ [vy], upd_same, h2.app (.cons ry .nil)⟩), e'⟩
                  · cases e'
                · cases e'
  · have hi' : k.items.length ≤ i := by omega
    rw [List.drop_eq_nil_of_le hi'] at e'
    unfold lcLW at e'
    split at e'
    case isFalse => cases e'
    rename_i hck
    refine .inl ⟨(wk F' ρ' μ' H' (g2.trans g') w' hck i).1 hi', ?_⟩
    cases e'
    exact p1 _ F' ρ' H' (g2.trans g') w' (.c nD)
theorem z_lcW {vs : List Nat} (hc : X.calm = true) (hN : X.N.Nodup) (hi : PI X tg iter (zW G W fi)) (ok : BlkOk X.N X.env.scope scope own) (hv : own.map (·.2) = vs) (zg : ZG G js t g) (hj : ∀ j ∈ js, j ∈ vs)
    (hg : ∀ (s : Shared) (H : Hp) (C : Addr) (cl : List (Str × Addr)) (fp : List Addr), PG (X.blk s H scope (compEnvC scope cl C X.env) fp) tg t)
    (ht : ∀ (s : Shared) (H : Hp) (C : Addr) (cl : List (Str × Addr)) (fp : List Addr), PTs (X.blk s H scope (compEnvC scope cl C X.env) fp) ifs (zT G W0 fc))
    (he : ∀ (s : Shared) (H : Hp) (C : Addr) (cl : List (Str × Addr)) (fp : List Addr), PE (X.blk s H scope (compEnvC scope cl C X.env) fp) elt (zE G W0 fe)) (hs : ∀ x, foldedSetIterable iter X.env x = pure x := by intro _; rfl) :
    PE X (.ListComp elt [⟨tg, iter, ifs, 0⟩] scope pos) (zE G W (fLcW fi vs g fc fe)) := by
  subst hv; exact peImp (pe_lc hc hN hi ok hg ht he hs) fun _ _ _ q => lcW_reads zg hj q
theorem zs_setLcW {vs : List Nat} {f' : Fz Sv} (conv : ∀ σ H Q, zE G W f' σ H Q → zE G W (fLcW fi vs g fc fe) σ H Q) {i : Nat} {y : Str} {py : Pos} {spos : Pos} (hc : X.calm = true) (hN : X.N.Nodup) (hy : X.N[i]? = some y) (hyl : X.env.scope.names.lookup y = some .local)
    (hsw : swapsWith (.ListComp elt [⟨tg, iter, ifs, 0⟩] scope pos) (some (.Name y py)) spos.line X.env = pure true) (hi : PI X tg iter (zW G W fi)) (ok : BlkOk X.N X.env.scope scope own) (hv : own.map (·.2) = vs) (zg : ZG G js t g) (hj : ∀ j ∈ js, j ∈ vs)
    (hg : ∀ (s : Shared) (H : Hp) (C : Addr) (cl : List (Str × Addr)) (fp : List Addr), PG (X.blk s H scope (compEnvC scope cl C X.env) fp) tg t)
    (ht : ∀ (s : Shared) (H : Hp) (C : Addr) (cl : List (Str × Addr)) (fp : List Addr), PTs (X.blk s H scope (compEnvC scope cl C X.env) fp) ifs (zT G W0 fc))
    (he : ∀ (s : Shared) (H : Hp) (C : Addr) (cl : List (Str × Addr)) (fp : List Addr), PE (X.blk s H scope (compEnvC scope cl C X.env) fp) elt (zE G W0 fe)) (hs : ∀ x, foldedSetIterable iter X.env x = pure x := by intro _; rfl) :
    PS X (.Assign [.Name y py] (.ListComp elt [⟨tg, iter, ifs, 0⟩] scope pos) spos) (zS G W (sSet i f')) := by
  subst hv
  exact psImp (ps_setLc hc hN hy hyl hsw hi ok hg ht he hs) fun D σ H q => by
    obtain ⟨F, ρ, δ, μ, r, w, s, e, p⟩ := q
    have q2 : zE G W f' σ H (fun x H1 => gName i x σ H1 D.nx) := zstepS w s e p fun sa μ1 x F1 ρ1 H1 g1 w1 s1 rx e1 p1 => by
      cases e1
      exact p1.nx rfl w1 (s1.set rx i)
    exact lcW_reads zg hj (conv _ _ _ q2)
/-! the walks: lists as cells or trees, alone, with numbers, side by side -/
def lstC (v : Sv) (μ : Mu) : Option Wk := match v with
  | .d (.lst l) => some ⟨l.map Sv.d, fun _ => True⟩
  | .c n => match μ[n]? with
    | some (.lst xs) => some ⟨xs, fun μ => μ[n]? = some (.lst xs)⟩
    | _ => none
  | _ => none
theorem lstC_at {F : Hp} {ρ : List Addr} {μ : Mu} {H : Hp} {v : V} {sv : Sv} {k : Wk} (w : Wf G F ρ μ H) (r : Rs G F ρ v sv) (h : lstC sv μ = some k) : ∃ a vs, v = .ref a ∧ SqL G.K H a vs ∧ RsL G F ρ vs k.items ∧ k.chk μ ∧
    ∀ F' ρ' μ' H', Gr F F' ρ ρ' → Wf G F' ρ' μ' H' → k.chk μ' → ∃ vs, SqL G.K H' a vs ∧ RsL G F' ρ' vs k.items := by
  unfold lstC at h
  split at h
  · cases h
    cases r with
    | d r => cases r with
      | lst h1 h2 => exact ⟨_, _, rfl, w.ex.l h1, RsL.ofD h2, trivial, fun F' ρ' μ' H' g w' _ => ⟨_, w'.ex.l (g.f.l h1), (RsL.ofD h2).mono g⟩⟩
  · split at h
    · rename_i n xs hx
      cases h
      cases r with
      | c hr =>
        obtain ⟨_, vs, h1, h2⟩ := w.cell _ _ _ hr hx
        refine ⟨_, vs, rfl, SqL.of h1, h2, hx, fun F' ρ' μ' H' g w' hc => ?_⟩
        obtain ⟨_, ws, k1, k2⟩ := w'.cell _ _ _ (g.at hr) hc
        exact ⟨ws, SqL.of k1, k2⟩
    · cases h
  · cases h
variable {F : Hp} {ρ : List Addr} {μ : Mu} {H : Hp} {a b : Expr} {fa fb : Fz Sv} {fr : Fz (List Sv)} {fl : Fz (List Sv)} {p : Pos}
/-- what was a plain walk -/
def fWk (f : Fz (List Sv)) : Fz Wk := fun δ μ => (f δ μ).bind fun l μ => some (.ok ⟨l, fun _ => True⟩, μ)
theorem zi_wk {iter tg : Expr} (h : PI X tg iter (zI G W fl)) : PI X tg iter (zW G W (fWk fl)) := piImp h fun σ H R q => by
  obtain ⟨F, ρ, δ, μ, rr, w, s, e, p⟩ := q
  exact zstep w s e p fun l μ1 J F1 ρ1 H1 g1 w1 s1 wk e1 p1 => by
    cases e1
    exact p1.ok w1 (fun F' ρ' μ' H' g w _ => wk F' ρ' μ' H' g w)
/-- a list, a tuple, a text -/
def fSeqW (fa : Fz Sv) : Fz Wk := fun δ μ => (fa δ μ).bind fun a μ => match a with
  | .d (.tup l) => some (.ok ⟨l.map Sv.d, fun _ => True⟩, μ)
  | .d (.str s) => some (.ok ⟨s.map fun c => .d (.str [c]), fun _ => True⟩, μ)
  | a => match lstC a μ with
    | some k => some (.ok k, μ)
    | none => none
theorem wkC_lst {v : V} {sv : Sv} {k : Wk} {l : Addr} (w : Wf G F ρ μ H) (r : Rs G F ρ v sv) (h : lstC sv μ = some k) (hv : v = .ref l) : WalkC G F ρ (Itl G.K l) k := by
  obtain ⟨a, vs, e, _, _, _, hh⟩ := lstC_at w r h
  rw [hv] at e; cases e
  intro F' ρ' μ' H' g w' c i
  obtain ⟨ws, r1, r2⟩ := hh F' ρ' μ' H' g w' c
  have hl := r2.len
  refine ⟨fun hi => ⟨ws, r1, by rw [hl]; exact hi⟩, fun y hy => ?_⟩
  obtain ⟨u, hu, ru⟩ := RsL.get r2 hy
  refine ⟨⟨ws, u, r1, hu⟩, fun x H'' ⟨e1, hx⟩ => ?_⟩
  subst e1
  have := hx ws r1
  rw [hu] at this; cases this
  exact ⟨F', ρ', Gr.refl _ _, w', ru⟩
theorem zi_seqW (hK : G.K = X.K) (ha : PE X a (zE G W fa)) : PI X tg a (zW G W (fSeqW fa)) := piImp (piOr (pi_list ha) (piOr (pi_tup ha) (pi_str ha))) fun σ H R q => by
  obtain ⟨F, ρ, δ, μ, rr, w, s, e, p⟩ := q
  unfold fSeqW at e
  cases h : fa δ μ with
  | none => rw [h] at e; cases e
  | some q =>
    obtain ⟨v, μ1⟩ := q
    rw [h] at e
    cases v with
    | error x => cases e; exact .inl ⟨F, ρ, δ, μ, _, w, s, h, p⟩
    | ok v =>
      rw [Rz.bind_ok] at e
      split at e
      · cases e
        refine .inr (.inl ⟨F, ρ, δ, μ, _, w, s, h, fun x F1 ρ1 H1 g1 w1 r1 => ?_⟩)
        cases r1 with
        | d r1 => cases r1 with
          | tup h1 h2 => exact ⟨_, rfl, ⟨_, by rw [← hK]; exact w1.ex.t h1⟩, by rw [← hK]; exact p _ _ _ _ g1 w1 (fun F' ρ' μ' H' g w _ => wk_tup h1 h2 F' ρ' μ' H' g w)⟩
      · cases e
        refine .inr (.inr ⟨F, ρ, δ, μ, _, w, s, h, fun x F1 ρ1 H1 g1 w1 r1 => ?_⟩)
        cases r1 with
        | d r1 => cases r1 with
          | str z => exact ⟨z, rfl, p _ _ _ _ g1 w1 (fun F' ρ' μ' H' g w _ => wk_str z F' ρ' μ' H' g w)⟩
      · split at e
        · rename_i k hk
          cases e
          refine .inl ⟨F, ρ, δ, μ, _, w, s, h, fun x F1 ρ1 H1 g1 w1 r1 => ?_⟩
          obtain ⟨l, vs, e1, h1, _, _, _⟩ := lstC_at w1 r1 hk
          exact ⟨l, e1, ⟨vs, by rw [← hK]; exact h1⟩, by rw [← hK]; exact p _ _ _ _ g1 w1 (wkC_lst w1 r1 hk e1)⟩
        · cases e
/-- the items with numbers, side by side: trees alone -/
def fEnumW (fr : Fz (List Sv)) : Fz Wk := fun δ μ => (fr δ μ).bind fun as μ => match as with
  | [v] => match lstC v μ with
    | some k => match toDs k.items with
      | some ds => some (.ok ⟨enI 0 ds, k.chk⟩, μ)
      | none => none
    | none => none
  | _ => none
theorem zi_enumW (hK : G.K = X.K) {elts : List Expr} {kk : Nat} {tpos : Pos} (hg : Gl X "enumerate") (hm : X.mg "enumerate" = none) (ha : PA X [a] (zA G W fr)) (hs : starEach [a] X.env = [(false, eval a X.env)] := by rfl) :
    PI X (.Tuple elts kk tpos) (.Call (.Name "enumerate" p) [a] [] pos) (zW G W (fEnumW fr)) := piImp (pi_enum hg hm ha hs) fun σ H R q => by
  obtain ⟨F, ρ, δ, μ, rr, w, s, e, p⟩ := q
  refine zstep w s e p fun sa μ1 x F1 ρ1 H1 g1 w1 s1 rx e1 p1 => ?_
  split at e1
  · split at e1
    · rename_i v k hk
      split at e1
      · rename_i ds hd
        cases e1
        cases rx with
        | cons r t =>
          cases t
          obtain ⟨l, vs, rfl, h1, h2, hc, hh⟩ := lstC_at w1 r hk
          refine ⟨l, vs, rfl, by rw [← hK]; exact h1, ?_⟩
          rw [← hK]
          refine p1.ok w1 (fun F' ρ' μ' H' g w' c i => ?_)
          obtain ⟨ws, r1, r2⟩ := hh F' ρ' μ' H' g w' c
          rw [of_toDs hd] at r2
          have hl := r2.len
          rw [List.length_map] at hl
          refine ⟨fun hi => ⟨ws, r1, by rw [hl]; rw [enI_len] at hi; exact hi⟩, fun y hy => ?_⟩
          rw [enI_get] at hy
          cases hd : ds[i]? with
          | none => rw [hd] at hy; cases hy
          | some d =>
            rw [hd] at hy
            have hy' : Sv.d (.tup [.int ((0 + i : Nat) : Int), d]) = y := Option.some.inj hy
            subst hy'
            obtain ⟨u, hu, ru⟩ := RsL.get r2 (show (ds.map Sv.d)[i]? = some (.d d) by rw [List.getElem?_map, hd]; rfl)
            refine ⟨⟨ws, u, r1, hu⟩, fun x H'' ⟨T, z, ev, hT, eH, hx⟩ => ?_⟩
            have e1 := hx ws r1
            rw [hu] at e1; cases e1
            subst ev eH
            obtain ⟨w2, g2⟩ := w'.newD hT (.tup [.int (i : Nat), u])
            refine ⟨_, ρ', g2, w2, .d (.tup (SqT.of upd_same) ?_)⟩
            cases ru with
            | d ru =>
              rw [Nat.zero_add]
              exact .cons (.int _) (.cons (ru.mono g2.f) .nil)
      · cases e1
    · cases e1
  · cases e1
def fZipW (fr : Fz (List Sv)) : Fz Wk := fun δ μ => (fr δ μ).bind fun as μ => match as with
  | [u, v] => match lstC u μ, lstC v μ with
    | some k, some m => match toDs k.items, toDs m.items with
      | some ds, some es => some (.ok ⟨zipI ds es, fun μ => k.chk μ ∧ m.chk μ⟩, μ)
      | _, _ => none
    | _, _ => none
  | _ => none
theorem zi_zipW (hK : G.K = X.K) {elts : List Expr} {kk : Nat} {tpos : Pos} (hg : Gl X "zip") (hm : X.mg "zip" = none) (ha : PA X [a, b] (zA G W fr)) (hs : starEach [a, b] X.env = (false, eval a X.env) :: starEach [b] X.env := by rfl) (hpl : (backTo pos (starEach [b] X.env)).any (·.1) = false := by rfl) :
    PI X (.Tuple elts kk tpos) (.Call (.Name "zip" p) [a, b] [] pos) (zW G W (fZipW fr)) := piImp (pi_zip hg hm ha hs hpl) fun σ H R q => by
  obtain ⟨F, ρ, δ, μ, rr, w, s, e, p⟩ := q
  refine zstep w s e p fun sa μ1 x F1 ρ1 H1 g1 w1 s1 rx e1 p1 => ?_
  split at e1
  · split at e1
    · rename_i u v k m hk hm'
      split at e1
      · rename_i ds es hd he
        cases e1
        cases rx with
        | cons r t => cases t with
          | cons r' t =>
            cases t
            obtain ⟨l, vs, rfl, h1, h2, hc, hh⟩ := lstC_at w1 r hk
            obtain ⟨l', vs', rfl, h1', h2', hc', hh'⟩ := lstC_at w1 r' hm'
            refine ⟨l, l', vs, vs', rfl, by rw [← hK]; exact h1, by rw [← hK]; exact h1', ?_⟩
            rw [← hK]
            refine p1.ok w1 (fun F' ρ' μ' H' g w' c i => ?_)
            obtain ⟨ws, r1, r2⟩ := hh F' ρ' μ' H' g w' c.1
            obtain ⟨ws', r3, r4⟩ := hh' F' ρ' μ' H' g w' c.2
            rw [of_toDs hd] at r2
            rw [of_toDs he] at r4
            have hl := r2.len
            have hl' := r4.len
            rw [List.length_map] at hl hl'
            refine ⟨fun hi => ⟨ws, ws', r1, r3, by rw [zipI_len] at hi; rw [hl, hl']; omega⟩, fun y hy => ?_⟩
            rw [zipI_get] at hy
            cases hd1 : ds[i]? with
            | none => rw [hd1] at hy; cases hy
            | some d =>
              cases hd2 : es[i]? with
              | none => rw [hd1, hd2] at hy; cases hy
              | some d2 =>
                rw [hd1, hd2] at hy
                have hy' : Sv.d (.tup [d, d2]) = y := Option.some.inj hy
                subst hy'
                obtain ⟨u, hu, ru⟩ := RsL.get r2 (show (ds.map Sv.d)[i]? = some (.d d) by rw [List.getElem?_map, hd1]; rfl)
                obtain ⟨u2, hu2, ru2⟩ := RsL.get r4 (show (es.map Sv.d)[i]? = some (.d d2) by rw [List.getElem?_map, hd2]; rfl)
                refine ⟨⟨ws, ws', u, u2, r1, r3, hu, hu2⟩, fun x H'' ⟨T, z, z2, ev, hT, eH, hx, hx2⟩ => ?_⟩
                have e1 := hx ws r1
                rw [hu] at e1; cases e1
                have e2 := hx2 ws' r3
                rw [hu2] at e2; cases e2
                subst ev eH
                obtain ⟨w2, g2⟩ := w'.newD hT (.tup [u, u2])
                refine ⟨_, ρ', g2, w2, .d (.tup (SqT.of upd_same) ?_)⟩
                cases ru with
                | d ru => cases ru2 with
                  | d ru2 => exact .cons (ru.mono g2.f) (.cons (ru2.mono g2.f) .nil)
      · cases e1
    · cases e1
  · cases e1
end
end Z
namespace Z
open PySem PySem.Spec PyProof.Rows L2
theorem exA_ok {P : Program} {w : World} {H : Hp} {h : Heap} {a : Addr} {cls : Value} {d : Option Addr} {oe : Obj} {vs : Array Value} (e : h.get? a = some oe) (z : Zc cls d oe) (hd : oe.data = .fields vs) : ObjOk P w H h a (ExA cls d a) :=
  ⟨⟨oe, vs, e, z, hd⟩, ⟨oe, e⟩, fun _ _ ⟨o, v, q, r⟩ k => ⟨o, v, k o q, r⟩⟩
section
variable {X : Cx} {x n y : Str} {c : Value} {i j : Nat} {body : List Stmt} {np ny nn pos pos' pos2 : Pos} {tb : WX → TS} {Wout : WX} {pins : List (Addr × Obj)} {σ : L2.St} {H : Hp} {s : Shared}
/-- a pinned object that is new to the def is tracked -/
theorem inv_track {a : Addr} {oe : Obj} {vs : Array Value} {cls : Value} {d : Option Addr} (J : Inv X ((a, oe) :: pins) σ H s) (h0 : X.s_0.heap.get? a = none) (hp : ∀ p ∈ X.pn ++ pins, p.1 ≠ a) (z : Zc cls d oe) (hd : oe.data = .fields vs) : Inv X pins σ (upd H a (ExA cls d a)) s := by
  obtain ⟨p1, p2, p3, p4, p5⟩ := J.pin (a, oe) (List.mem_append_right _ List.mem_cons_self)
  have ne0 : ∀ b o, X.s_0.heap.get? b = some o → b ≠ a := fun b o e q => by rw [q, h0] at e; cases e
  have neH : ∀ b o, H b = some o → b ≠ a := fun b o e q => by rw [q] at e; rw [show H a = none from p2] at e; cases e
  refine ⟨J.ok, J.os, J.bare, ⟨J.base.keep, J.base.slot, fun b o e q hx => ?_, J.base.there, fun b xs e => ?_, fun b o u e => ?_, fun b ps e => ?_⟩, J.loc, J.cell, ?_, fun x c e => ?_, fun p hq => ?_, ?_, J.len⟩
  · rw [upd_ne (ne0 b o e)]; exact J.base.free b o e q hx
  · have := J.base.tups b xs e
    rw [upd_ne (neH b _ this)]; exact this
  · have := J.base.frzs b o u e
    rw [upd_ne (neH b _ this)]; exact this
  · obtain ⟨more, this⟩ := J.base.tbls b ps e
    exact ⟨more, by rw [upd_ne (neH b _ this)]; exact this⟩
  · rw [upd_ne (fun q => p3 q.symm)]; exact J.free
  · have hc : c ≠ a := fun q => by
      obtain ⟨v, o, ho, hv⟩ := J.cell x c e
      rw [q] at ho
      rw [show s.heap.get? a = some oe from p1] at ho
      cases ho
      rw [hd] at hv
      cases hv
    rw [upd_ne hc]; exact J.freeC x c e
  · obtain ⟨q1, q2, q3⟩ := J.pin p (by
      rcases List.mem_append.1 hq with h | h
      · exact List.mem_append_left _ h
      · exact List.mem_append_right _ (List.mem_cons_of_mem _ h))
    exact ⟨q1, by rw [upd_ne (hp p hq)]; exact q2, q3⟩
  · exact J.hok.laidN (fun _ _ q => q) p2 (exA_ok p1 z hd)
/-- a pin more -/
theorem inv_pin {a : Addr} {oe : Obj} {vs : Array Value} (J : Inv X pins σ H s) (ha : s.heap.get? a = some oe) (hd : oe.data = .fields vs) (na : H a = none) (nL : a ≠ X.env.locals) (nF : a ∉ X.fs) : Inv X ((a, oe) :: pins) σ H s :=
  ⟨J.ok, J.os, J.bare, J.base, J.loc, J.cell, J.free, J.freeC, fun p hq => by
    rcases List.mem_append.1 hq with h | h
    · exact J.pin p (List.mem_append_left _ h)
    · rcases List.mem_cons.1 h with e | h
      · rw [e]; exact ⟨ha, na, nL, nF, fun v z => by have z' : oe.data = .cell v := z; rw [hd] at z'; cases z'⟩
      · exact J.pin p (List.mem_append_right _ h), J.hok, J.len⟩
/-- what 'except x as n: y = n' wishes of an exception: it is kept, tracked, in y's slot j; n's slot i is free again -/
def wKeep (K : PySem.W.Frag) (c : Value) (i j : Nat) (Wout : WX) (D : Ends) : WX := fun cls d σ H =>
  ∃ b, PySem.W.exmOne K cls c = some b ∧ (b = true → ∀ a, H a = none → D.nx (((σ.set i (some (.ref a))).set j (some (.ref a))).set i none) (upd H a (ExA cls d a))) ∧ (b = false → Wout cls d σ H)
theorem ps_try_keep (hs : X.stack = X.env :: X.outer) (hf : X.env.frame = some X.env.locals) (hex : X.ex = []) (hN : X.N.Nodup) (hi : X.N[i]? = some n) (hln : X.env.kindOf n = some .local) (hij : i < X.N.length) (hj : X.N[j]? = some y) (hly : Loc X.env.scope y)
    (hfy : X.fn y = true ∨ X.env.scope.names.lookup y = some .local) (hvn : Vis X.env.scope n) (hdn : (n == ("__debug__" : Str)) = false) (hcn : (n == ("__classdict__" : Str)) = false)
    (hc : Names X x c) (tk : Takes X Wout)
    (hsw : swapsWithSole [.Name y ny] (.Name n nn) pos2.line X.env = pure false) (hsp : swappedStores [.Name y ny] (.Name n nn) X.env = pure none) (hae : (assignEach [.Name y ny] X.env).map (·.2) = [assign (.Name y ny) X.env])
    (hb : ∀ (W : WX) (pn : List (Addr × Obj)) (xe : Value → Shared → Prop), Takes (X.tr pn xe) W → PassesOwn (model X.prog X.w) X.A X.env xe → PSs (X.tr pn xe) body (tb W)) :
    PS X (.Try body [.ExceptHandler (some (.Name x np)) (some n) [.Assign [.Name y ny] (.Name n nn) pos2] pos'] [] [] pos) (fun D σ H => tb (wKeep X.K c i j Wout D) D σ H) := by
  refine ⟨fun pins s σ H D I h => ?_⟩
  have ok := I.ok
  have frm : X.A.frames = some (X.env :: X.outer) := by rw [ok.frames, hs]
  refine wpAny_Try_except ?_
  have B1 := (hb (wKeep X.K c i j Wout D) (X.pn ++ pins) (fun e s₁ => wpAny (model X.prog X.w) X.A (noteFrame e X.env) (fun _ s₂ => wpAny (model X.prog X.w) X.A (setFlight e none) (fun _ s₃ =>
    wpAny (model X.prog X.w) X.A (handleBy e X.env [.ExceptHandler (some (.Name x np)) (some n) [.Assign [.Name y ny] (.Name n nn) pos2] pos']) (SP X pins D) X.xe s₃) X.xe s₂) X.xe s₁) ?tk PassesOwn.looking).run [] s σ H D (I.toTry _) h
  case tk =>
    intro u s' xx
    obtain ⟨a, B, sI, pins', σ', H', cls, d, rfl, J', nb, up, sky, na, os, ag, b, hb1, hyes, hno⟩ := xx
    have J : Inv X pins σ' H' sI := J'.ofTry ok
    have sky' : Sky B (X.env :: X.outer) a (Zc cls d) X.env.locals s'.heap := by rw [← hs]; exact sky
    refine Sky.land Zc.steady frm hf sky' fun h3 fl3 up3 => ?_
    have J3 : Inv X pins σ' H' { s' with heap := h3 } := J.landed nb fl3.1 (up.trans up3) os ag
    obtain ⟨oe3, vs3, he3, hz3, hd3⟩ := fl3.there
    have nfr : a ∉ frs (X.env :: X.outer) := fun hm => by
      obtain ⟨_, o', e', hnf⟩ := fl3.2.2.1.mem hm
      rw [he3] at e'; cases e'
      exact hnf _ hd3
    have nL : a ≠ X.env.locals := fun z => nfr (List.mem_filterMap.mpr ⟨X.env, List.mem_cons_self, by rw [hf, z]⟩)
    have nF : a ∉ X.fs := fun hm => by
      obtain ⟨e, he, q⟩ := List.mem_filterMap.mp hm
      exact nfr (List.mem_filterMap.mpr ⟨e, List.mem_cons_of_mem _ he, q⟩)
    have nI : sI.heap.get? a = none := by
      cases e : sI.heap.get? a with
      | none => rfl
      | some o =>
        have z := nb a o e (by rw [show (X.tr (X.pn ++ pins) _).stack = X.stack from rfl, hs]; exact nfr)
        rw [fl3.2.1] at z; cases z
    have n0 : X.s_0.heap.get? a = none := by
      cases e : X.s_0.heap.get? a with
      | none => rfl
      | some o =>
        obtain ⟨o', z⟩ := J.base.there a o e (by rw [hex]; exact List.not_mem_nil)
        rw [nI] at z; cases z
    have np' : ∀ p ∈ X.pn ++ pins, p.1 ≠ a := fun p hp q => by
      have z := (J.pin p hp).1
      rw [q, nI] at z; cases z
    have S3 := J3.suite he3 hd3 na nL nF
    refine wpAny_handleBy_cons (codeAny_handlers_test ?_) (by intro q; cases q)
    have LT : PySem.W.Looks (model X.prog X.w) h3 (typeOf (.ref a)) cls := fun A Q E s k q => wpAny_typeOf_ref (k _ _ he3) (by rw [hz3.1]; exact q)
    have LM := PySem.W.exm_one (M := model X.prog X.w) (J3.kIn) LT hb1
    have look : ∀ {Q : Value → Shared → Prop} {E : Value → Shared → Prop}, Q c { s' with heap := h3 } → wpAny (model X.prog X.w) (X.A.mark (some (.ref a))) (eval (.Name x np) X.env) Q E { s' with heap := h3 } := fun {Q E} q => by
      obtain ⟨hg, hdbg, hm | ⟨hm, hv, hnn⟩⟩ := hc
      · exact ld_glob (X := X.suite a ((a, oe3) :: (X.pn ++ pins))) S3 hg hm q hdbg
      · exact ld_blt (X := X.suite a ((a, oe3) :: (X.pn ++ pins))) S3 hg hm hv q hnn hdbg
    refine look (LM.here ?_)
    cases b with
    | true =>
      refine codeAny_handlers_suite_as ?_
      refine HandSPX.lands_againZ fl3 fun h4 fl4 up4 => ?_
      have J4 : Inv X pins σ' H' { s' with heap := h4 } := J.landed nb fl4.1 ((up.trans up3).trans up4) os ag
      obtain ⟨oe4, vs4, he4, hz4, hd4⟩ := fl4.there
      have S4 := (inv_pin J4 he4 hd4 na nL nF).suite he4 hd4 na nL nF
      refine store_ok (X := X.suite a ((a, oe4) :: (X.pn ++ ((a, oe4) :: pins)))) (v := .ref a) S4 hN hi (.inl hln) rfl (fun s5 S5 => ?_) (.inr hln)
      have rd : PSs (X.suite a ((a, oe4) :: (X.pn ++ ((a, oe4) :: pins)))) [.Assign [.Name y ny] (.Name n nn) pos2] (tAsg (tVar i) (gName j)) :=
        pss_one (ps_asg (pe_var hi hvn hdn hcn) (pg_name hN hj hly hfy) hsw hsp hae)
      have li : i < σ'.length := by rw [J.len]; exact hij
      refine wpAny_mono (rd.run [] s5 _ H' { nx := fun σ6 H6 => σ6 = (σ'.set i (some (.ref a))).set j (some (.ref a)) ∧ H6 = H', bk := fun _ _ => False, ct := fun _ _ => False, rt := fun _ _ => False } S5 ⟨.ref a, List.getElem?_set_self li, rfl, rfl⟩) (fun f s6 hq => ?_) (fun _ _ z => False.elim z)
      cases f with
      | next =>
        obtain ⟨σ6, H6, S6, rfl, rfl⟩ := hq
        refine gone_ok (S6.unsuite ok) hN hi hln fun s7 J7 => ?_
        exact ⟨_, _, inv_track J7 n0 np' hz4 hd4, hyes rfl a na⟩
      | brk => obtain ⟨_, _, _, z⟩ := hq; exact z.elim
      | cont => obtain ⟨_, _, _, z⟩ := hq; exact z.elim
      | ret u => obtain ⟨_, _, _, _, _, z⟩ := hq; exact z.elim
    | false =>
      show wpAny _ X.A (handleBy (.ref a) X.env []) _ _ _
      refine wpAny_handleBy_nil ?_
      obtain ⟨k1, k2, k3, oe, vs, T, oT, ts', he, hz, hd, h1, hr⟩ := id fl3
      unfold PySem.passOn
      refine wpAny_bind (wpAny_field he hd h1 ?_)
      rw [if_neg (show ¬ ((Value.ref T == Value.none) = true) from by simp)]
      have out : wpAny (model X.prog X.w) X.A (setFlight (.ref a) X.env.frame) (fun _ s4 => wpAny (model X.prog X.w) X.A (throw (.ref a) : Sem Flow) (SP X pins D) X.xe s4) X.xe { s' with heap := h3 } := by
        rw [hf]
        refine HandSPX.setFlight_upZ fl3 fun h4 hh4 up4 => wpAny_throw (tk _ _ ?_)
        exact ⟨a, B, sI, pins, σ', H', cls, d, rfl, J, nb, (up.trans up3).trans up4, .inr (.inr (by rw [hs]; exact hh4)), na, os, ag, hno rfl⟩
      first
        | exact wpAny_bind (wpAny_pure (wpAny_bind out))
        | exact wpAny_bind out
  refine wpAny_mono B1 (fun f s1 hq => ?_) (fun e s1 he => he)
  cases f with
  | next => obtain ⟨σ', H', J', q⟩ := hq; exact wpAny_execs_nil ⟨σ', H', J'.ofTry ok, q⟩
  | brk => obtain ⟨σ', H', J', q⟩ := hq; exact ⟨σ', H', J'.ofTry ok, q⟩
  | cont => obtain ⟨σ', H', J', q⟩ := hq; exact ⟨σ', H', J'.ofTry ok, q⟩
  | ret u => obtain ⟨v, σ', H', J', r, q⟩ := hq; exact ⟨v, σ', H', J'.ofTry ok, r, q⟩
end
end Z
namespace Z
open PySem PySem.Spec PyProof.Rows L2
section
variable {G : Gx} {X : Cx} {W : WX} {F : Hp} {ρ : List Addr} {μ : Mu} {H : Hp} {a b e : Expr} {es : List Expr} {fa : Fz Sv} {fr : Fz (List Sv)} {pos p p2 : Pos} {x : Str} {S : Sz}
/-! ### raise C('..') -/
def sRaise (c : String) : Sz := fun δ μ => some (.ex ⟨c, []⟩, δ, μ)
theorem zs_raise {C : Addr} {c : String} (hc : X.calm = true) (tk : Takes X W) (hm : PMk X e (fun _ H Q => Q (.ref C) none H)) (hC : G.cls c = C) : PS X (.Raise (some e) none pos) (zS G W (sRaise c)) := psImp (ps_raise hc tk hm) fun D σ H q => by
  obtain ⟨F, ρ, δ, μ, r, w, s, e, p⟩ := q
  cases e
  exact p _ _ σ F ρ H (Gr.refl F ρ) w s ⟨by rw [hC], .inl ⟨rfl, rfl⟩⟩

/-! ### try: .. except C as n: y = n -/
def sTryK (mt : String → Option Bool) (i j : Nat) (S : Sz) : Sz := fun δ μ => match S δ μ with
  | some (.ex x, δ1, μ1) => match mt x.c with
    | some true => some (.nx, ((δ1.set i (some (.d (.exc x.c x.fs)))).set j (some (.d (.exc x.c x.fs)))).set i none, μ1)
    | some false => some (.ex x, δ1, μ1)
    | none => none
  | r => r
theorem try_reads {mt : String → Option Bool} {i j : Nat} {c : Value} (hmt : ∀ k b, mt k = some b → PySem.W.exmOne G.K (.ref (G.cls k)) c = some b) {D : Ends} {σ : L2.St} (q : zS G W (sTryK mt i j S) D σ H) : zS G (wKeep G.K c i j W D) S D σ H := by
  obtain ⟨F, ρ, δ, μ, r, w, s, e, p⟩ := q
  unfold sTryK at e
  cases h : S δ μ with
  | none => rw [h] at e; cases e
  | some q =>
    obtain ⟨fl, δ1, μ1⟩ := q
    rw [h] at e
    refine ⟨F, ρ, δ, μ, _, w, s, h, ?_⟩
    cases fl with
    | nx => cases e; exact p
    | bk => cases e; exact p
    | ct => cases e; exact p
    | rt v => cases e; exact p
    | ex x =>
      intro cls d σ' F' ρ' H' g w' s' xr
      simp only at e
      split at e
      · rename_i hx
        cases e
        obtain ⟨rfl, xr⟩ := xr
        refine ⟨true, hmt _ _ hx, fun _ a na => ?_, (fun z => by cases z)⟩
        obtain ⟨w2, g2⟩ := w'.newD na (ExA (.ref (G.cls x.c)) d a)
        have rx : Rs G (upd F' a (ExA (.ref (G.cls x.c)) d a)) ρ' (.ref a) (.d (.exc x.c x.fs)) := by
          refine .d ?_
          rcases xr with ⟨e1, e2⟩ | ⟨dd, vs, e1, e2, e3⟩
          · rw [e1]; subst e2
            exact .exc0 upd_same
          · subst e1
            exact .excD upd_same (g2.f _ _ e2) (e3.mono g2.f)
        exact p _ _ _ _ (g.trans g2) w2 ((((s'.mono g2).set rx i).set rx j).un_at i none)
      · rename_i hx
        cases e
        refine ⟨false, ?_, (fun z => by cases z), fun _ => p cls d σ' F' ρ' H' g w' s' xr⟩
        rw [xr.1]; exact hmt _ _ hx
      · cases e
theorem zs_tryK {x n y : Str} {c : Value} {i j : Nat} {body : List Stmt} {np ny nn pos pos' pos2 : Pos} (hK : G.K = X.K) {mt : String → Option Bool} (hmt : ∀ k b, mt k = some b → PySem.W.exmOne G.K (.ref (G.cls k)) c = some b)
    (hs : X.stack = X.env :: X.outer) (hf : X.env.frame = some X.env.locals) (hex : X.ex = []) (hN : X.N.Nodup) (hi : X.N[i]? = some n) (hln : X.env.kindOf n = some .local) (hij : i < X.N.length) (hj : X.N[j]? = some y) (hly : Loc X.env.scope y)
    (hfy : X.fn y = true ∨ X.env.scope.names.lookup y = some .local) (hvn : Vis X.env.scope n) (hdn : (n == ("__debug__" : Str)) = false) (hcn : (n == ("__classdict__" : Str)) = false)
    (hc : Names X x c) (tk : Takes X W)
    (hsw : swapsWithSole [.Name y ny] (.Name n nn) pos2.line X.env = pure false) (hsp : swappedStores [.Name y ny] (.Name n nn) X.env = pure none) (hae : (assignEach [.Name y ny] X.env).map (·.2) = [assign (.Name y ny) X.env])
    (hb : ∀ (W : WX) (pn : List (Addr × Obj)) (xe : Value → Shared → Prop), Takes (X.tr pn xe) W → PassesOwn (model X.prog X.w) X.A X.env xe → PSs (X.tr pn xe) body (zS G W S)) :
    PS X (.Try body [.ExceptHandler (some (.Name x np)) (some n) [.Assign [.Name y ny] (.Name n nn) pos2] pos'] [] [] pos) (zS G W (sTryK mt i j S)) :=
  psImp (ps_try_keep hs hf hex hN hi hln hij hj hly hfy hvn hdn hcn hc tk hsw hsp hae hb) fun D σ H q => by
    rw [← hK]; exact try_reads hmt q

/-! ### isinstance, of anything -/
/-- what is asked of an own exception class -/
structure ExcZ (K : PySem.W.Frag) (C : Addr) : Prop where
  hcl : (PySem.W.clsIn K C).isSome = true
  hg : PySem.W.findIn K (.ref C) "__getattribute__" = some (some (.builtin "BaseException.__getattribute__"))
  hk : PySem.W.findIn K (.ref C) "__getattr__" = some none
  hs : PySem.W.subIn K (.ref C) (.type "BaseException") = some true
  ha : PySem.W.findIn K (.ref C) "__class__" = some (some (.builtin "object.__class__"))
  hn : PySem.W.specialIn K (.builtin "object.__class__") "__get__" = some (some (.builtin "getset_descriptor.__get__"))
  ht : PySem.W.takesIn K (.builtin "object.__class__") = some true
  hm : PySem.W.mroIn K C (.type "object") = some true
def rIsiX (K : PySem.W.Frag) : List V → Hp → VK → Prop := fun xs H Q => ∃ (a C : Addr) (d : Option Addr) (c : V) (u : Value) (b : Bool), xs = [.ref a, c] ∧ H a = some (ExA (.ref C) d a) ∧ (∀ dd, d = some dd → ∃ o, H dd = some o) ∧ ExcZ K C ∧ ClsV c u ∧ PySem.W.kitOne K (.ref C) u = some b ∧ Q (.bl b) H
theorem call_isiX : CallR X (.builtin "isinstance") (rIsiX X.K) := by
  intro pins s σ H xs us Q I r h
  obtain ⟨a, C, d, c, u, b, rfl, hA, hD, T, k, e, q⟩ := h
  obtain ⟨u1, u2, rfl, r1, r2⟩ := vals2 r
  have e2 := k.eq r2
  subst e2
  cases (show u1 = Value.ref a from r1)
  have ob : ObjOk X.prog X.w H s.heap a (ExA (.ref C) d a) := I.hok a _ hA
  obtain ⟨⟨oe, vs, h1, hz, hd⟩, _, _⟩ := ob
  obtain ⟨hz1, hz2⟩ := hz
  have nc : PySem.W.notCls oe = true := by unfold PySem.W.notCls; rw [hd]
  have J : ∃ od, PySem.W.InstAt s.heap a oe C od := by
    cases d with
    | none => exact ⟨none, h1, hz1, nc, by rw [hz2]; trivial⟩
    | some dd =>
      obtain ⟨o, ho⟩ := hD dd rfl
      obtain ⟨od, ho'⟩ := objOk_get (I.hok dd o ho)
      exact ⟨some od, h1, hz1, nc, by rw [hz2]; exact ho'⟩
  obtain ⟨od, J⟩ := J
  exact PySem.W.kia_one (PySem.W.kitx_exc (od := od) T.hcl T.hg T.hk T.hs T.ha T.hn T.ht T.hm) I.kIn J e (fun z => nomatch z) fun tk => ⟨.bl b, H, I.tok tk, rfl, q⟩
def rIsiZ (K : PySem.W.Frag) : List V → Hp → VK → Prop := fun xs H Q => rIsi K xs H Q ∨ rIsiX K xs H Q
theorem call_isiZ : CallR X (.builtin "isinstance") (rIsiZ X.K) := orC call_isi call_isiX
/-- z: what stands at hand for the classes whose answer is told -/
structure IsiOk (G : Gx) (cv : Value) (f : Tg → Option Bool) : Prop where
  hk : ∀ t k, f t = some k → PySem.W.kitOne G.K (tgV G t) cv = some k
  ho : ∀ c k, f (.o c) = some k → InsZ G.K (G.cls c)
  hx : ∀ c k, f (.x c) = some k → ExcZ G.K (G.cls c)
theorem isi_at (hK : G.K = X.K) {v : V} {sv : Sv} {t : Tg} {c : V} {cv : Value} {f : Tg → Option Bool} {k : Bool} {Q : VK} (hcv : ClsV c cv) (T : IsiOk G cv f) (w : Wf G F ρ μ H) (r : Rs G F ρ v sv) (h : tgOf μ sv = some t) (hf : f t = some k) (q : Q (.bl k) H) : rIsiZ X.K [v, c] H Q := by
  by_cases hx : ∃ c', t = .x c'
  · obtain ⟨c', rfl⟩ := hx
    have kk := T.hk _ _ hf
    have zz := T.hx _ _ hf
    rw [hK] at kk zz
    cases r with
    | d r =>
      cases r with
      | exc0 h1 => cases h; exact .inr ⟨_, _, _, c, cv, k, rfl, w.ex _ _ h1, (fun _ z => by cases z), zz, hcv, kk, q⟩
      | excD h1 h2 h3 => cases h; exact .inr ⟨_, _, _, c, cv, k, rfl, w.ex _ _ h1, fun _ z => by cases z; exact ⟨_, w.ex _ _ h2⟩, zz, hcv, kk, q⟩
      | _ => cases h
    | c hr =>
      unfold tgOf at h
      simp only at h
      split at h <;> cases h
  · have kk := T.hk _ _ hf
    rw [hK] at kk
    exact .inl ⟨v, c, tgV G t, cv, k, rfl, hcv, tg_at hK w r h (fun c' e' => by rw [← hK]; exact T.ho c' k (by rw [← e']; exact hf)) (fun c' e' => hx ⟨c', e'⟩), kk, q⟩
theorem z_isiZ (hK : G.K = X.K) {c : V} {cv : Value} {f : Tg → Option Bool} (hcv : ClsV c cv) (T : IsiOk G cv f)
    (hg : Gl X "isinstance") (hm : X.mg "isinstance" = none) (ha : PE X a (zE G W fa)) (hb : PE X b (tC c))
    (hs1 : starEach [a, b] X.env = (false, eval a X.env) :: starEach [b] X.env := by rfl) (hs2 : starEach [b] X.env = (false, eval b X.env) :: starEach [] X.env := by rfl) (hpl : (backTo pos (starEach [b] X.env)).any (·.1) = false := by rfl) :
    PE X (.Call (.Name "isinstance" p) [a, b] [] pos) (zE G W (fIsi f fa)) :=
  peImp (pe_callB call_isiZ hg hm (by decide +kernel) (pa_cons ha (pa_cons hb pa_nil hs2) hs1) (by decide) (by decide) hs1 hpl) fun σ H Q q => by
  obtain ⟨F, ρ, δ, μ, rr, w, s, e, p⟩ := q
  refine zstep w s e p fun sa μ1 x F1 ρ1 H1 g1 w1 s1 rx e1 p1 => ?_
  split at e1
  · rename_i t ht
    split at e1
    · rename_i k hk'
      cases e1
      exact isi_at hK hcv T w1 rx ht hk' (p1.ok w1 (.d (.bl k)))
    · cases e1
  · cases e1
/-- the answers for an own class: yes, no -/
def isO (yes no : List String) : Tg → Option Bool
  | .b n => if n ∈ seven then some false else none
  | .o c => if c ∈ yes then some true else if c ∈ no then some false else none
  | .x c => if c ∈ yes then some true else if c ∈ no then some false else none
end
end Z
namespace Z
open PySem PySem.Spec PyProof.Rows L2
theorem fm_nil {α : Type} {P : α → Prop} : ∀ p ∈ ([] : List α), P p := fun _ h => nomatch h
theorem fm_cons {α : Type} {P : α → Prop} {a : α} {l : List α} (h : P a) (t : ∀ p ∈ l, P p) : ∀ p ∈ a :: l, P p := fun p hp => by
  rcases List.mem_cons.mp hp with rfl | hp
  · exact h
  · exact t p hp
theorem lookup_mem' {α : Type} {c : String} {x : α} : ∀ {l : List (String × α)}, l.lookup c = some x → (c, x) ∈ l
  | [], h => by cases h
  | (d, y) :: r, h => by
    rw [List.lookup_cons] at h
    split at h
    · rename_i q
      cases h
      have : c = d := by simpa using q
      subst this
      exact List.mem_cons_self
    · exact List.mem_cons_of_mem _ (lookup_mem' h)
/-- isinstance by tables: built-in types, own classes, own exceptions -/
def isG (bt : String → Option Bool) (tO tX : List (String × Bool)) : Tg → Option Bool
  | .b n => bt n
  | .o c => tO.lookup c
  | .x c => tX.lookup c
/-- the name x stands for the class whose value is cv -/
structure IsiG (G : Gx) (mg : Str → Option Value) (x : Str) (v : V) (cv : Value) (f : Tg → Option Bool) : Prop where
  cl : ClsV v cv
  ok : IsiOk G cv f
theorem isiG_of {G : Gx} {cv : Value} {bt : String → Option Bool} {tO tX : List (String × Bool)} (hb : ∀ n k, bt n = some k → PySem.W.kitOne G.K (.type n) cv = some k)
    (hO : ∀ p ∈ tO, PySem.W.kitOne G.K (.ref (G.cls p.1)) cv = some p.2 ∧ InsZ G.K (G.cls p.1)) (hX : ∀ p ∈ tX, PySem.W.kitOne G.K (.ref (G.cls p.1)) cv = some p.2 ∧ ExcZ G.K (G.cls p.1)) : IsiOk G cv (isG bt tO tX) where
  hk := fun t k h => by
    cases t with
    | b n => exact hb n k h
    | o c => exact (hO _ (lookup_mem' h)).1
    | x c => exact (hX _ (lookup_mem' h)).1
  ho := fun c k h => (hO _ (lookup_mem' (show tO.lookup c = some k from h))).2
  hx := fun c k h => (hX _ (lookup_mem' (show tX.lookup c = some k from h))).2
/-- a built-in type is none of an own class -/
def noB (n : String) : Option Bool := if n ∈ seven then some false else none
def allTy (n : String) : Bool := match PySem.fastBuiltinMro n with
  | some l => l.all fun v => match v with
    | .type _ => true
    | _ => false
  | none => false
theorem seven_ty : seven.all allTy = true := by decide +kernel
theorem noB_ok {K : PySem.W.Frag} {C : Addr} (hc : PySem.W.isClsIn K C = true) (ht : PySem.W.typeIn K (.ref C) = some (.type "type")) : ∀ n k, noB n = some k → PySem.W.kitOne K (.type n) (.ref C) = some k := by
  intro n k h
  unfold noB at h
  split at h
  · rename_i hm
    cases h
    have h1 := List.all_eq_true.mp seven_ty n hm
    unfold allTy at h1
    split at h1
    · rename_i l hl
      have e2 : ((PySem.W.clsIn K C).isSome && PySem.W.typeIn K (.ref C) == some (.type "type")) = true := by
        have hc' : (PySem.W.clsIn K C).isSome = true := hc
        rw [hc', ht]; rfl
      show (if (Value.type n == Value.ref C) = true then some true else if ((PySem.W.clsIn K C).isSome && PySem.W.typeIn K (.ref C) == some (.type "type")) = true then PySem.W.subIn K (.type n) (.ref C) else none) = some false
      rw [if_neg (by simp), if_pos e2]
      show (PySem.fastBuiltinMro n).map (·.contains (.ref C)) = some false
      rw [hl]
      show some (l.contains (.ref C)) = some false
      congr 1
      rw [← Bool.not_eq_true]
      intro hh
      have hh2 : Value.ref C ∈ l := by simpa using hh
      have := List.all_eq_true.mp h1 _ hh2
      cases this
    · cases h1
  · cases h
/-- an own class against an own class -/
theorem kit_own {K : PySem.W.Frag} {E C : Addr} {b : Bool} (hc : PySem.W.isClsIn K C = true) (ht : PySem.W.typeIn K (.ref C) = some (.type "type")) (hcc : PySem.W.subIn K (.ref C) (.ref C) = some true) (hs : PySem.W.subIn K (.ref E) (.ref C) = some b) : PySem.W.kitOne K (.ref E) (.ref C) = some b := by
  have e2 : ((PySem.W.clsIn K C).isSome && PySem.W.typeIn K (.ref C) == some (.type "type")) = true := by
    have hc' : (PySem.W.clsIn K C).isSome = true := hc
    rw [hc', ht]; rfl
  show (if (Value.ref E == Value.ref C) = true then some true else if ((PySem.W.clsIn K C).isSome && PySem.W.typeIn K (.ref C) == some (.type "type")) = true then PySem.W.subIn K (.ref E) (.ref C) else none) = some b
  by_cases h : E = C
  · subst h
    rw [if_pos (by simp), ← hcc, hs]
  · rw [if_neg (by simpa using h), if_pos e2, hs]
/-- an own class against a built-in one -/
theorem kit_bty {K : PySem.W.Frag} {E : Addr} {T : String} {b : Bool} (hm : PySem.W.kitMeta T = true) (hs : PySem.W.subIn K (.ref E) (.type T) = some b) : PySem.W.kitOne K (.ref E) (.type T) = some b := by
  show (if (Value.ref E == Value.type T) = true then some true else if PySem.W.kitMeta T = true then PySem.W.subIn K (.ref E) (.type T) else none) = some b
  rw [if_neg (by simp), if_pos hm, hs]
/-- built-in types against a built-in one, by its own table -/
def btB (T : String) (n : String) : Option Bool := if n ∈ seven then kitB n T else none
theorem btB_ok {K : PySem.W.Frag} {T : String} : ∀ n k, btB T n = some k → PySem.W.kitOne K (.type n) (.type T) = some k := by
  intro n k h
  unfold btB at h
  split at h
  · exact kit_ty h
  · cases h
/-- except C: what stands at hand -/
structure TryG (G : Gx) (mg : Str → Option Value) (x : Str) (C : Addr) (t : List (String × Bool)) : Prop where
  nm : mg x = some (.ref C)
  ok : ∀ p ∈ t, PySem.W.exmOne G.K (.ref (G.cls p.1)) (.ref C) = some p.2
theorem tryG_mt {G : Gx} {mg : Str → Option Value} {x : Str} {C : Addr} {t : List (String × Bool)} (h : TryG G mg x C t) : ∀ k b, t.lookup k = some b → PySem.W.exmOne G.K (.ref (G.cls k)) (.ref C) = some b := fun k b e => h.ok _ (lookup_mem' e)
/-- raise C('..') -/
structure RzG (G : Gx) (mg : Str → Option Value) (x : Str) (c : String) : Prop where
  nm : mg x = some (.ref (G.cls c))
  ex : PySem.W.excIn G.K (G.cls c) [.type "ValueError", .type "Exception", .type "BaseException", .type "object"] "ValueError.__new__" = true
  kp : PySem.W.keepIn G.K (.ref (G.cls c)) = true
  sb : PySem.W.subIn G.K (.ref (G.cls c)) (.type "BaseException") = some true
  ty : PySem.W.typeIn G.K (.ref (G.cls c)) = some (.type "type")
theorem zs_rz {G : Gx} {X : Cx} {W : WX} {x m : Str} {c : String} {j : Nat} {p p2 pos pos2 : Pos} (r : RzG G X.mg x c) (hK : G.K = X.K) (hc : X.calm = true) (tk : Takes X W) (hg : Gl X x) (hdb : (x == ("__debug__" : Str)) = false := by decide) :
    PS X (.Raise (some (.Call (.Name x p) [.Constant (.str m) j p2] [] pos)) none pos2) (zS G W (sRaise c)) := by
  obtain ⟨h1, h2, h3, h4, h5⟩ := r
  rw [hK] at h2 h3 h4 h5
  exact zs_raise hc tk (pmk_own PySem.F.excBase_ValueError h2 h1 h3 (raises_own h4 h5) hg hdb) rfl
/-- the law's own promise, whatever the classes' names -/
def spL (K : PySem.W.Frag) (fn : Fn) : Sp := fun vs H Q E => ∀ G : Gx, G.K = K → spF G fn vs H Q E
theorem fnok_L {P : Program} {w : World} {G : Gx} {mg : Str → Option Value} {base : Heap} {CX : CXT} {k : Nat} {f : Addr} {fd : FuncData} {ps : List Str} {fn : Fn} (h : FnOk P w G.K mg base CX k f fd ps (spF G fn)) : FnOk P w G.K mg base CX k f fd ps (spL G.K fn) where
  len := fun vs H Q E q => h.len vs H Q E (q G rfl)
  run := fun A outer s H args us vs Q E hr e b r q => h.run A outer s H args us vs Q E hr e b r (q G rfl)
end Z

namespace Z
open PySem PySem.Spec PyProof.Rows L2
theorem fnok_none {P : Program} {w : World} {G : Gx} {mg : Str → Option Value} {base : Heap} {CX : CXT} {k : Nat} {f : Addr} {fd : FuncData} {ps : List Str} : FnOk P w G.K mg base CX k f fd ps (spF G fun _ _ => none) where
  len := fun vs H Q E q => by obtain ⟨_, _, _, _, _, _, _, e, _⟩ := q; cases e
  run := fun A outer s H args us vs Q E hr e b r q => by obtain ⟨_, _, _, _, _, _, _, e, _⟩ := q; cases e
end Z

namespace Z
open PySem PySem.Spec PyProof.Rows L2
theorem ok_defS {P : Program} {w : World} {mg : Str → Option Value} {base : Heap} {G : Gx} {x qual : Str} {st : Stmt} {f : Addr} {fd : FuncData} {N ps : List Str} {k : Nat} {S : Sz} {sc : Scope} (hS : defScope st = sc) (Fu : Fun G.K x qual st f fd) (Sc : FnScope N ps sc)
    (body : ∀ (cdv : Value) (A : Around) (outer : List Env) (s : Shared) (H : Hp) (E : XK), Room k (A.deeper (envOfC qual sc s.heap.objs.size f cdv)) →
      PSs (cxOf (L2.CX P w) P w G.K mg base N qual sc f cdv A outer s H E) (defBody st) (zS G (fun c d _ H => E c d H) S)) :
    FnOk P w G.K mg base (L2.CX P w) (k + 1) f fd ps (spF G (runB ps.length N.length S)) := by
  subst hS; exact ok_def Fu Sc body
end Z
namespace Z
open PySem PySem.Spec PyProof.Rows L2
/-! ## the weakest conditions of the walks with a check, and of exceptions -/
@[simp] theorem forLW_true (g : Tz) (S : Sz) : ∀ (xs : List Sv) (δ : Dl) (μ : Mu), forLW (fun _ => True) g S xs δ μ = forL g S xs δ μ
  | [], δ, μ => by unfold forLW forL; rw [if_pos trivial]
  | x :: xs, δ, μ => by
    unfold forLW forL; rw [if_pos trivial]
    cases g x δ with
    | none => rfl
    | some δ1 =>
      dsimp only
      generalize S δ1 μ = r
      cases r with
      | none => rfl
      | some q =>
        obtain ⟨f, δ2, μ2⟩ := q
        cases f with
        | nx => exact forLW_true g S xs δ2 μ2
        | ct => exact forLW_true g S xs δ2 μ2
        | bk => rfl
        | rt v => rfl
        | ex v => rfl
@[simp] theorem forW_wk (fi : Fz (List Sv)) (g : Tz) (S : Sz) (δ : Dl) (μ : Mu) : sForW (fWk fi) g S δ μ = sFor fi g S δ μ := by
  unfold sForW sFor fWk
  cases h : fi δ μ with
  | none => rfl
  | some q =>
    obtain ⟨e, μ1⟩ := q
    cases e with
    | error x => rfl
    | ok l => simp only [Rz.bind_ok, eS_ok]; exact forLW_true ..
@[simp] theorem Es_forWK {fi : Fz Wk} {g : Tz} {S : Sz} {δ : Dl} {μ : Mu} {R : Fl → Dl → Mu → Prop} : Es (sForW fi g S δ μ) R = Ev (fi δ μ) (fun e μ => okc e (fun k => Es (forLW k.chk g S k.items δ μ) R) (fun x => R (.ex x) δ μ)) := by
  show Es (eS _ _ _) _ = _
  rw [Es_eS]
theorem Es_forLW {ck : Chk} {g : Tz} {S : Sz} {R : Fl → Dl → Mu → Prop} (I : Nat → Dl → Mu → Prop) (hk : ∀ i δ μ, I i δ μ → ck μ) : ∀ (xs : List Sv) (j : Nat) (δ : Dl) (μ : Mu), I j δ μ →
    (∀ (i : Nat) (x : Sv) (δ : Dl) (μ : Mu), xs[i]? = some x → I (j + i) δ μ → someD (g x δ) fun δ1 => Es (S δ1 μ) fun f δ2 μ2 => match f with
      | .nx => I (j + i + 1) δ2 μ2
      | .ct => I (j + i + 1) δ2 μ2
      | .bk => R .nx δ2 μ2
      | f => R f δ2 μ2) →
    (∀ δ μ, I (j + xs.length) δ μ → R .nx δ μ) → Es (forLW ck g S xs δ μ) R
  | [], j, δ, μ, h0, _, he => by
    unfold forLW
    rw [if_pos (hk _ _ _ h0), Es_some]; exact he δ μ h0
  | x :: xs, j, δ, μ, h0, hs, he => by
    have h := hs 0 x δ μ rfl h0
    unfold forLW
    rw [if_pos (hk _ _ _ h0)]
    cases hg : g x δ with
    | none => rw [hg] at h; exact h.elim
    | some δ1 =>
      rw [hg] at h
      simp only [someD_s] at h
      obtain ⟨f, δ2, μ2, e, p⟩ := h
      simp only [e]
      have st : ∀ (i : Nat) (y : Sv) (δ : Dl) (μ : Mu), xs[i]? = some y → I (j + 1 + i) δ μ → someD (g y δ) fun δ1 => Es (S δ1 μ) fun f δ2 μ2 => match f with
          | .nx => I (j + 1 + i + 1) δ2 μ2
          | .ct => I (j + 1 + i + 1) δ2 μ2
          | .bk => R .nx δ2 μ2
          | f => R f δ2 μ2 := by
        intro i y δ μ e1 h1
        have e3 : j + 1 + i = j + (i + 1) := by omega
        rw [e3] at h1 ⊢
        exact hs (i + 1) y δ μ e1 h1
      have en : ∀ δ μ, I (j + 1 + xs.length) δ μ → R .nx δ μ := fun δ μ h => he δ μ (by
        have e3 : j + (x :: xs).length = j + 1 + xs.length := by simp only [List.length_cons]; omega
        rw [e3]; exact h)
      cases f with
      | nx => exact Es_forLW I hk xs (j + 1) δ2 μ2 p st en
      | ct => exact Es_forLW I hk xs (j + 1) δ2 μ2 p st en
      | bk => rw [Es_some]; exact p
      | rt v => rw [Es_some]; exact p
      | ex v => rw [Es_some]; exact p
/-- what a walk goes over, known -/
theorem Es_forW {fi : Fz Wk} {g : Tz} {S : Sz} {δ : Dl} {μ μ1 : Mu} {k : Wk} {R : Fl → Dl → Mu → Prop} (hi : fi δ μ = some (.ok k, μ1)) (h : Es (forLW k.chk g S k.items δ μ1) R) : Es (sForW fi g S δ μ) R := by
  rw [Es_forWK, hi, Ev_some]; exact h
theorem Es_forWt {fi : Fz Wk} {g : Tz} {S : Sz} {δ : Dl} {μ μ1 : Mu} {items : List Sv} {R : Fl → Dl → Mu → Prop} (hi : fi δ μ = some (.ok ⟨items, fun _ => True⟩, μ1)) (h : Es (forL g S items δ μ1) R) : Es (sForW fi g S δ μ) R :=
  Es_forW hi (by rw [forLW_true]; exact h)
theorem lcLW_true (g : Tz) (c : Fz Bool) (e : Fz Sv) (n : Nat) (δ : Dl) : ∀ (xs : List Sv) (μ : Mu), lcLW (fun _ => True) g c e n δ xs μ = lcL g c e n δ xs μ
  | [], μ => by unfold lcLW lcL; rw [if_pos trivial]
  | x :: xs, μ => by
    unfold lcLW lcL; rw [if_pos trivial]
    have ih := lcLW_true g c e n δ xs
    cases g x δ with
    | none => rfl
    | some δ1 =>
      dsimp only
      generalize c δ1 μ = r
      cases r with
      | none => rfl
      | some q =>
        obtain ⟨r, μ1⟩ := q
        cases r with
        | error x => rfl
        | ok b =>
          cases b with
          | false => exact ih _
          | true =>
            dsimp only
            generalize e δ1 μ1 = r
            cases r with
            | none => rfl
            | some q =>
              obtain ⟨r, μ2⟩ := q
              cases r with
              | error x => rfl
              | ok y =>
                dsimp only
                generalize μ2[n]? = r
                cases r with
                | none => rfl
                | some cc =>
                  cases cc with
                  | lst acc =>
                    dsimp only
                    rw [ih]
                  | dct kvs => rfl
                  | ins c fs => rfl
                  | fz => rfl
@[simp] theorem lcW_wk (fi : Fz (List Sv)) (vs : List Nat) (g : Tz) (c : Fz Bool) (e : Fz Sv) : fLcW (fWk fi) vs g c e = fLcC fi vs g c e := by
  funext δ μ
  unfold fLcW fLcC fWk
  cases h : fi δ μ with
  | none => rfl
  | some q =>
    obtain ⟨x, μ1⟩ := q
    cases x with
    | error x => rfl
    | ok l => simp only [Rz.bind_ok, lcLW_true] <;> rfl
theorem lcW_from {δ : Dl} {μ μ1 : Mu} {fi : Fz Wk} {vs : List Nat} {g : Tz} {c : Fz Bool} {e : Fz Sv} {items : List Sv} (hi : fi δ μ = some (.ok ⟨items, fun _ => True⟩, μ1)) : fLcW fi vs g c e δ μ = fLcC (fun _ m => some (.ok items, m)) vs g c e δ μ1 := by
  show Rz.bind (fi δ μ) _ = Rz.bind (some (.ok items, μ1)) _
  rw [hi]; simp only [Rz.bind_ok, lcLW_true] <;> rfl
/-- the plain comprehension over trees, made a tree -/
theorem lcWF {δ : Dl} {μ : Mu} {fi : Fz Wk} {vs : List Nat} {g : Tz} {c : Fz Bool} {e : Fz Sv} (items : List Sv) (hi : fi δ μ = some (.ok ⟨items, fun _ => True⟩, μ)) (hn : items.length ≤ 16777216) (p : Sv → Bool) (f : Sv → D)
    (hs : ∀ (x : Sv) (acc : List D), x ∈ items → ∃ δ1, g x (wipeZ δ vs) = some δ1 ∧ c δ1 (μ ++ [.lst (acc.map Sv.d)]) = some (.ok (p x), μ ++ [.lst (acc.map Sv.d)]) ∧ (p x = true → e δ1 (μ ++ [.lst (acc.map Sv.d)]) = some (.ok (.d (f x)), μ ++ [.lst (acc.map Sv.d)]))) :
    fFrz (fLcW fi vs g c e) δ μ = some (.ok (.d (.lst ((items.filter p).map f))), μ) := by
  have := lcF_pure (δ := δ) (μ := μ) (fi := fun _ m => some (.ok items, m)) (vs := vs) (g := g) (c := c) (e := e) items rfl hn p f hs
  show Rz.bind _ _ = _
  rw [lcW_from hi]; exact this
/-- .. without a test, the items' values by a function -/
theorem lcWm {α : Type} {δ : Dl} {μ : Mu} {fi : Fz Wk} {vs : List Nat} {g : Tz} {e : Fz Sv} (xs : List α) (it : α → Sv) (hi : fi δ μ = some (.ok ⟨xs.map it, fun _ => True⟩, μ)) (hn : xs.length ≤ 16777216) (f : α → D)
    (hs : ∀ (x : α) (μ' : Mu), x ∈ xs → ∃ δ1, g (it x) (wipeZ δ vs) = some δ1 ∧ e δ1 μ' = some (.ok (.d (f x)), μ')) :
    fFrz (fLcW fi vs g fYes e) δ μ = some (.ok (.d (.lst (xs.map f))), μ) := by
  have run : ∀ (ys : List α) (acc : List D), (∀ y ∈ ys, y ∈ xs) → acc.length + ys.length ≤ xs.length → lcL g fYes e μ.length (wipeZ δ vs) (ys.map it) (μ ++ [.lst (acc.map Sv.d)]) = some (μ ++ [.lst ((acc ++ ys.map f).map Sv.d)]) := by
    intro ys
    induction ys with
    | nil => intro acc _ _; simp [lcL]
    | cons y ys ih =>
      intro acc hm hl
      simp only [List.length_cons] at hl
      obtain ⟨δ1, e1, e2⟩ := hs y (μ ++ [.lst (acc.map Sv.d)]) (hm y (by simp))
      have q1 : (μ ++ [Cell.lst (acc.map Sv.d)])[μ.length]? = some (.lst (acc.map Sv.d)) := by simp
      have q2 : (μ ++ [Cell.lst (acc.map Sv.d)]).set μ.length (.lst (acc.map Sv.d ++ [.d (f y)])) = μ ++ [.lst ((acc ++ [f y]).map Sv.d)] := by simp
      simp only [List.map_cons, lcL, e1, fYes_eq, e2, q1]
      rw [if_pos (by simp; omega), q2, ih (acc ++ [f y]) (fun z hz => hm z (by simp [hz])) (by simp; omega)]
      simp
  have r0 := run xs [] (fun _ h => h) (by simp)
  show Rz.bind _ _ = _
  rw [lcW_from hi]
  show Rz.bind (Rz.bind (some (.ok (xs.map it), μ)) _) _ = _
  simp only [Rz.bind_ok]
  have : (μ ++ [Cell.lst []]) = μ ++ [.lst (([] : List D).map Sv.d)] := rfl
  rw [this, r0]
  have q1 : (μ ++ [Cell.lst (([] ++ xs.map f).map Sv.d)])[μ.length]? = some (.lst (([] ++ xs.map f).map Sv.d)) := by simp
  have q2 : (μ ++ [Cell.lst (([] ++ xs.map f).map Sv.d)]).set μ.length .fz = μ ++ [.fz] := by simp
  simp only [Rz.bind_ok, frzV, q1, toDs_map, q2]
  rw [gc_app]; simp
/- with a check: what is walked stays -/
theorem lcWc {δ : Dl} {μ : Mu} {fi : Fz Wk} {vs : List Nat} {g : Tz} {c : Fz Bool} {e : Fz Sv} (k : Wk) (hi : fi δ μ = some (.ok k, μ)) (hk : ∀ t, k.chk (μ ++ t)) (hn : k.items.length ≤ 16777216) (p : Sv → Bool) (f : Sv → D)
    (hs : ∀ (x : Sv) (acc : List D), x ∈ k.items → ∃ δ1, g x (wipeZ δ vs) = some δ1 ∧ c δ1 (μ ++ [.lst (acc.map Sv.d)]) = some (.ok (p x), μ ++ [.lst (acc.map Sv.d)]) ∧ (p x = true → e δ1 (μ ++ [.lst (acc.map Sv.d)]) = some (.ok (.d (f x)), μ ++ [.lst (acc.map Sv.d)]))) :
    fFrz (fLcW fi vs g c e) δ μ = some (.ok (.d (.lst ((k.items.filter p).map f))), μ) := by
  have run : ∀ (ys : List Sv) (acc : List D), (∀ y ∈ ys, y ∈ k.items) → acc.length + ys.length ≤ k.items.length → lcLW k.chk g c e μ.length (wipeZ δ vs) ys (μ ++ [.lst (acc.map Sv.d)]) = some (μ ++ [.lst ((acc ++ (ys.filter p).map f).map Sv.d)]) := by
    intro ys
    induction ys with
    | nil => intro acc _ _; unfold lcLW; rw [if_pos (hk _)]; simp
    | cons y ys ih =>
      intro acc hm hl
      simp only [List.length_cons] at hl
      obtain ⟨δ1, e1, e2, e3⟩ := hs y acc (hm y (by simp))
      unfold lcLW; rw [if_pos (hk _)]
      cases hp : p y with
      | false =>
        rw [hp] at e2
        simp only [e1, e2]
        rw [ih acc (fun z hz => hm z (by simp [hz])) (by omega)]
        simp [hp]
      | true =>
        rw [hp] at e2
        have q1 : (μ ++ [Cell.lst (acc.map Sv.d)])[μ.length]? = some (.lst (acc.map Sv.d)) := by simp
        have q2 : (μ ++ [Cell.lst (acc.map Sv.d)]).set μ.length (.lst (acc.map Sv.d ++ [.d (f y)])) = μ ++ [.lst ((acc ++ [f y]).map Sv.d)] := by simp
        simp only [e1, e2, e3 hp, q1]
        rw [if_pos (by simp; omega), q2, ih (acc ++ [f y]) (fun z hz => hm z (by simp [hz])) (by simp; omega)]
        simp [hp]
  have r0 := run k.items [] (fun _ h => h) (by simp)
  have e2 : fLcW fi vs g c e δ μ = some (.ok (.c μ.length), μ ++ [.lst (((k.items.filter p).map f).map Sv.d)]) := by
    show Rz.bind (fi δ μ) _ = _
    rw [hi]; simp only [Rz.bind_ok]
    have : (μ ++ [Cell.lst []]) = μ ++ [.lst (([] : List D).map Sv.d)] := rfl
    rw [this, r0]; simp
  show Rz.bind _ _ = _
  rw [e2]; simp only [Rz.bind_ok]
  have q1 : (μ ++ [Cell.lst (((k.items.filter p).map f).map Sv.d)])[μ.length]? = some (.lst (((k.items.filter p).map f).map Sv.d)) := by simp
  have q2 : (μ ++ [Cell.lst (((k.items.filter p).map f).map Sv.d)]).set μ.length .fz = μ ++ [.fz] := by simp
  simp only [frzV, q1, toDs_map, q2]
  rw [gc_app]
section
variable {P : Except Exn Wk → Mu → Prop} {δ : Dl} {μ : Mu}
def seqWO (a : Sv) (μ : Mu) : Rz Wk := match a with
  | .d (.tup l) => some (.ok ⟨l.map Sv.d, fun _ => True⟩, μ)
  | .d (.str s) => some (.ok ⟨s.map fun c => .d (.str [c]), fun _ => True⟩, μ)
  | a => match lstC a μ with
    | some k => some (.ok k, μ)
    | none => none
def enumWO (as : List Sv) (μ : Mu) : Rz Wk := match as with
  | [v] => match lstC v μ with
    | some k => match toDs k.items with
      | some ds => some (.ok ⟨enI 0 ds, k.chk⟩, μ)
      | none => none
    | none => none
  | _ => none
def zipWO (as : List Sv) (μ : Mu) : Rz Wk := match as with
  | [u, v] => match lstC u μ, lstC v μ with
    | some k, some m => match toDs k.items, toDs m.items with
      | some ds, some es => some (.ok ⟨zipI ds es, fun μ => k.chk μ ∧ m.chk μ⟩, μ)
      | _, _ => none
    | _, _ => none
  | _ => none
@[simp] theorem Ev_wk (f : Fz (List Sv)) : Ev (fWk f δ μ) P = Ev (f δ μ) (fun e μ => okc e (fun l => P (.ok ⟨l, fun _ => True⟩) μ) (fun x => P (.error x) μ)) := by
  show Ev (Rz.bind _ _) _ = _
  rw [Ev_bind]; refine Ev_ext fun e μ => ?_; cases e <;> simp
@[simp] theorem Ev_seqW (fa : Fz Sv) : Ev (fSeqW fa δ μ) P = Ev (fa δ μ) (fun e μ => okc e (fun a => Ev (seqWO a μ) P) (fun x => P (.error x) μ)) := by
  show Ev (Rz.bind _ (fun a μ => seqWO a μ)) _ = _
  rw [Ev_bind]
@[simp] theorem Ev_enumW (fr : Fz (List Sv)) : Ev (fEnumW fr δ μ) P = Ev (fr δ μ) (fun e μ => okc e (fun a => Ev (enumWO a μ) P) (fun x => P (.error x) μ)) := by
  show Ev (Rz.bind _ (fun a μ => enumWO a μ)) _ = _
  rw [Ev_bind]
@[simp] theorem Ev_zipW (fr : Fz (List Sv)) : Ev (fZipW fr δ μ) P = Ev (fr δ μ) (fun e μ => okc e (fun a => Ev (zipWO a μ) P) (fun x => P (.error x) μ)) := by
  show Ev (Rz.bind _ (fun a μ => zipWO a μ)) _ = _
  rw [Ev_bind]
@[simp] theorem seqWO_l (l : List D) : seqWO (.d (.lst l)) μ = some (.ok ⟨l.map Sv.d, fun _ => True⟩, μ) := rfl
@[simp] theorem seqWO_t (l : List D) : seqWO (.d (.tup l)) μ = some (.ok ⟨l.map Sv.d, fun _ => True⟩, μ) := rfl
@[simp] theorem seqWO_s (l : List Nat) : seqWO (.d (.str l)) μ = some (.ok ⟨l.map fun c => .d (.str [c]), fun _ => True⟩, μ) := rfl
theorem seqWO_c {n : Nat} {xs : List Sv} (h : μ[n]? = some (.lst xs)) : seqWO (.c n) μ = some (.ok ⟨xs, fun μ => μ[n]? = some (.lst xs)⟩, μ) := by simp [seqWO, lstC, h]
@[simp] theorem enumWO_l (l : List D) : enumWO [.d (.lst l)] μ = some (.ok ⟨enI 0 l, fun _ => True⟩, μ) := by
  show (match toDs (l.map Sv.d) with
      | some ds => some (Except.ok (⟨enI 0 ds, fun _ => True⟩ : Wk), μ)
      | none => none) = _
  rw [toDs_map]
theorem enumWO_c {n : Nat} {xs : List D} (h : μ[n]? = some (.lst (xs.map Sv.d))) : enumWO [.c n] μ = some (.ok ⟨enI 0 xs, fun μ => μ[n]? = some (.lst (xs.map Sv.d))⟩, μ) := by simp [enumWO, lstC, h, toDs_map]
@[simp] theorem zipWO_ll (l m : List D) : zipWO [.d (.lst l), .d (.lst m)] μ = some (.ok ⟨zipI l m, fun _ => True⟩, μ) := by
  show (match toDs (l.map Sv.d), toDs (m.map Sv.d) with
      | some ds, some es => some (Except.ok (⟨zipI ds es, fun _ => True ∧ True⟩ : Wk), μ)
      | _, _ => none) = _
  rw [toDs_map, toDs_map]; simp
theorem zipWO_cl {n : Nat} {xs m : List D} (h : μ[n]? = some (.lst (xs.map Sv.d))) : zipWO [.c n, .d (.lst m)] μ = some (.ok ⟨zipI xs m, fun μ => μ[n]? = some (.lst (xs.map Sv.d))⟩, μ) := by
  simp [zipWO, lstC, h, toDs_map]
end
section
variable {R : Fl → Dl → Mu → Prop} {δ : Dl} {μ : Mu} {P : Except Exn Sv → Mu → Prop}
def optc (o : Option Bool) (k : Bool → Prop) (_ : Ph k := phm k) : Prop := match o with
  | some b => k b
  | none => False
@[simp ↓, simp] theorem optc_s (b : Bool) (k : Bool → Prop) : optc (some b) k = k b := rfl
@[simp ↓, simp] theorem tyc_some (tab : Tg → Option Bool) (t : Tg) (k : Bool → Prop) : tyc tab (some t) k = optc (tab t) k := by
  simp only [tyc, optc, Option.bind_some] <;> (cases tab t <;> rfl)
@[simp] theorem tgOf_exc (c : String) (fs : List (String × D)) (μ : Mu) : tgOf μ (.d (.exc c fs)) = some (.x c) := rfl
@[simp] theorem tgOf_ins (c : String) (fs : List (String × D)) (μ : Mu) : tgOf μ (.d (.ins c fs)) = some (.o c) := rfl
@[simp] theorem sRaise_eq (c : String) : sRaise c δ μ = some (.ex ⟨c, []⟩, δ, μ) := rfl
/-- behind the body of a try -/
def tryc (mt : String → Option Bool) (i j : Nat) (R : Fl → Dl → Mu → Prop) (f : Fl) (δ : Dl) (μ : Mu) : Prop := match f with
  | .ex x => match mt x.c with
    | some true => R .nx (((δ.set i (some (.d (.exc x.c x.fs)))).set j (some (.d (.exc x.c x.fs)))).set i none) μ
    | some false => R (.ex x) δ μ
    | none => False
  | f => R f δ μ
@[simp] theorem Es_tryK (mt : String → Option Bool) (i j : Nat) (S : Sz) : Es (sTryK mt i j S δ μ) R = Es (S δ μ) (tryc mt i j R) := by
  apply propext
  unfold sTryK
  constructor
  · rintro ⟨f, δ1, μ1, h, p⟩
    match e : S δ μ, h with
    | some (.ex x, δ2, μ2), h =>
      refine ⟨_, _, _, rfl, ?_⟩
      unfold tryc
      match hm : mt x.c, h with
      | some true, h => simp only [hm] at h ⊢; cases h; exact p
      | some false, h => simp only [hm] at h ⊢; cases h; exact p
      | none, h => simp only [hm] at h; cases h
    | some (.nx, δ2, μ2), h => cases h; exact ⟨_, _, _, rfl, p⟩
    | some (.bk, δ2, μ2), h => cases h; exact ⟨_, _, _, rfl, p⟩
    | some (.ct, δ2, μ2), h => cases h; exact ⟨_, _, _, rfl, p⟩
    | some (.rt v, δ2, μ2), h => cases h; exact ⟨_, _, _, rfl, p⟩
    | none, h => cases h
  · rintro ⟨f, δ1, μ1, h, p⟩
    rw [h]
    match f, p with
    | .ex x, p =>
      unfold tryc at p
      match hm : mt x.c, p with
      | some true, p => simp only [hm] at p ⊢; exact ⟨_, _, _, rfl, p⟩
      | some false, p => simp only [hm] at p ⊢; exact ⟨_, _, _, rfl, p⟩
      | none, p => simp only [hm] at p
    | .nx, p => exact ⟨_, _, _, rfl, p⟩
    | .bk, p => exact ⟨_, _, _, rfl, p⟩
    | .ct, p => exact ⟨_, _, _, rfl, p⟩
    | .rt v, p => exact ⟨_, _, _, rfl, p⟩
@[simp] theorem tryc_nx (mt : String → Option Bool) (i j : Nat) : tryc mt i j R .nx δ μ = R .nx δ μ := rfl
@[simp] theorem tryc_rt (mt : String → Option Bool) (i j : Nat) (v : Sv) : tryc mt i j R (.rt v) δ μ = R (.rt v) δ μ := rfl
@[simp] theorem tryc_bk (mt : String → Option Bool) (i j : Nat) : tryc mt i j R .bk δ μ = R .bk δ μ := rfl
@[simp] theorem tryc_ct (mt : String → Option Bool) (i j : Nat) : tryc mt i j R .ct δ μ = R .ct δ μ := rfl
theorem tryc_ex {mt : String → Option Bool} {i j : Nat} {x : Exn} (h : mt x.c = some true) : tryc mt i j R (.ex x) δ μ = R .nx (((δ.set i (some (.d (.exc x.c x.fs)))).set j (some (.d (.exc x.c x.fs)))).set i none) μ := by
  unfold tryc; simp only [h]
end
end Z
namespace Z
open PySem PySem.Spec PyProof.Rows L2
/-! ### own classes: fields, making -/
/-- the classes with their fields, the exceptions with theirs -/
structure Ct where
  ins : List (String × List String)
  exc : List (String × List String)
structure InsC (K : PySem.W.Frag) (C : Addr) (fs : List String) : Prop where
  cl : Cls K C
  ha : PySem.W.findIn K (.ref C) "__class__" = some (some (.builtin "object.__class__"))
  hn : PySem.W.specialIn K (.builtin "object.__class__") "__get__" = some (some (.builtin "getset_descriptor.__get__"))
  ht : PySem.W.takesIn K (.builtin "object.__class__") = some true
  hm : PySem.W.mroIn K C (.type "object") = some true
  nf : ∀ f ∈ fs, NoAttr K C (Str.ofString f)
structure ExcF (K : PySem.W.Frag) (C : Addr) (fs : List String) : Prop where
  ex : ExcZ K C
  hd : PySem.W.hasDictIn K C = true
  nf : ∀ f ∈ fs, PySem.W.findIn K (.ref C) (Str.ofString f) = some none
structure CtOk (G : Gx) (ct : Ct) : Prop where
  ins : ∀ p ∈ ct.ins, InsC G.K (G.cls p.1) p.2
  exc : ∀ p ∈ ct.exc, ExcF G.K (G.cls p.1) p.2
theorem lookup_mem {α : Type} {c : String} {x : α} : ∀ {l : List (String × α)}, l.lookup c = some x → (c, x) ∈ l
  | [], h => by cases h
  | (d, y) :: r, h => by
    rw [List.lookup_cons] at h
    split at h
    · rename_i q
      cases h
      have : c = d := by simpa using q
      subst this
      exact List.mem_cons_self
    · exact List.mem_cons_of_mem _ (lookup_mem h)
theorem InsC.z {K : PySem.W.Frag} {C : Addr} {fs : List String} (h : InsC K C fs) : InsZ K C := ⟨fun H a dx vs e => .ins e h.cl h.ha h.hn h.ht h.hm⟩
/-- the class of a thing has the field -/
def hasF (l : List (String × List String)) (c f : String) : Bool := match l.lookup c with
  | some fs => fs.contains f
  | none => false
theorem hasF_mem {l : List (String × List String)} {c f : String} (h : hasF l c f = true) : ∃ fs, (c, fs) ∈ l ∧ f ∈ fs := by
  unfold hasF at h
  split at h
  · rename_i fs q
    exact ⟨fs, lookup_mem q, by simpa using h⟩
  · cases h
def fldO (ct : Ct) (f : String) (o : Sv) (μ : Mu) : Rz Sv := match o with
  | .d (.ins c fs) => if hasF ct.ins c f = true then match fs.lookup f with
    | some x => okz x μ
    | none => none else none
  | .d (.exc c fs) => if hasF ct.exc c f = true then match fs.lookup f with
    | some x => okz x μ
    | none => none else none
  | .c n => match μ[n]? with
    | some (.ins c fs) => if hasF ct.ins c f = true then match fs.lookup f with
      | some x => some (.ok x, μ)
      | none => none else none
    | _ => none
  | _ => none
def fFld (ct : Ct) (f : String) (fo : Fz Sv) : Fz Sv := fun δ μ => (fo δ μ).bind fun o μ => fldO ct f o μ
section
variable {G : Gx} {X : Cx} {W : WX} {F : Hp} {ρ : List Addr} {μ : Mu} {H : Hp} {a b e o : Expr} {es : List Expr} {fa fo : Fz Sv} {fr : Fz (List Sv)} {pos p p2 apos : Pos} {x f : Str} {S : Sz} {ct : Ct}
theorem rpF_look {m : String} {y : D} : ∀ {fs : List (Str × V)} {gs : List (String × D)}, RpF G F fs gs → gs.lookup m = some y → ∃ v, fs.lookup (Str.ofString m) = some v ∧ Rp G F v y
  | _, _, .nil, h => by cases h
  | _, _, .cons (x := k) (v := v) h r, e => by
    rw [List.lookup_cons] at e
    rw [List.lookup_cons]
    split at e
    · rename_i q
      cases e
      have : m = k := by simpa using q
      subst this
      exact ⟨v, by simp, h⟩
    · rename_i q
      have ne : (Str.ofString m == Str.ofString k) = false := by
        cases z : (Str.ofString m == Str.ofString k) with
        | false => rfl
        | true =>
          have := ofString_inj (eq_of_beq z)
          subst this
          simp at q
      rw [ne]
      exact rpF_look r e
theorem rsF_look {m : String} {y : Sv} : ∀ {fs : List (Str × V)} {gs : List (String × Sv)}, RsF G F ρ fs gs → gs.lookup m = some y → ∃ v, fs.lookup (Str.ofString m) = some v ∧ Rs G F ρ v y
  | _, _, .nil, h => by cases h
  | _, _, .cons (k := k) (v := v) h r, e => by
    rw [List.lookup_cons] at e
    rw [List.lookup_cons]
    split at e
    · rename_i q
      cases e
      have : m = k := by simpa using q
      subst this
      exact ⟨v, by simp, h⟩
    · rename_i q
      have ne : (Str.ofString m == Str.ofString k) = false := by
        cases z : (Str.ofString m == Str.ofString k) with
        | false => rfl
        | true =>
          have := ofString_inj (eq_of_beq z)
          subst this
          simp at q
      rw [ne]
      exact rsF_look r e
/-- e.f of a kept exception -/
def tFldX (K : PySem.W.Frag) (te : TE) (f : Str) : TE := fun σ H Q => te σ H fun x H1 => ∃ (a C dd : Addr) (fs : List (Str × V)) (v : V), x = .ref a ∧ H1 a = some (ExA (.ref C) (some dd) a) ∧ H1 dd = some (.xd fs) ∧ ExcZ K C ∧ PySem.W.hasDictIn K C = true ∧ PySem.W.findIn K (.ref C) f = some none ∧ fs.lookup f = some v ∧ Q v H1
theorem pe_fldX {te : TE} (he : PE X e te) (hb : attributeBase e f X.env (eval e X.env) = eval e X.env) : PE X (.Attribute e f pos) (tFldX X.K te f) := by
  refine ⟨fun pins s σ H Q I h => ?_⟩
  refine attr_of hb (thn (he.run pins s σ H _ I h) fun u s1 hh => ?_)
  obtain ⟨x, H1, I1, rx, a, C, dd, fs, v, ex, ha, ea, T, hd, hno, l, q⟩ := hh
  subst ex
  obtain rfl : u = Value.ref a := rx
  have ob : ObjOk X.prog X.w H1 s1.heap a (ExA (.ref C) (some dd) a) := I1.hok a _ ha
  obtain ⟨⟨oe, ws, h1, hz, hdt⟩, _, _⟩ := ob
  have hx : ObjOk X.prog X.w H1 s1.heap dd (.xd fs) := I1.hok dd _ ea
  obtain ⟨mA, hns, hr⟩ := hx
  obtain ⟨od, ho, hl⟩ := lookIn_ns hns
  obtain ⟨u, hu, ru⟩ := RelO.some_of (v := v) (o := mA f) (by rw [← l]; exact hr f)
  have J : PySem.W.InstAt s1.heap a oe C (some od) := ⟨h1, hz.1, by unfold PySem.W.notCls; rw [hdt], by rw [hz.2]; exact ho⟩
  exact HandSPX.exc_get I1.kIn J T.hg T.hk T.hs (PySem.W.findObj_own hd hno rfl (by rw [hl, hu])) (handed_of ru) ⟨v, H1, I1.tok _, ru, q⟩
theorem z_fld (C : CtOk G ct) (fS : String) (hf : f = Str.ofString fS) (hK : G.K = X.K) (ho : PE X e (zE G W fo)) (hb : attributeBase e f X.env (eval e X.env) = eval e X.env := by rfl) : PE X (.Attribute e f pos) (zE G W (fFld ct fS fo)) :=
  peImp (peOr (pe_fld ho hb) (pe_fldX ho hb)) fun σ H Q q => by
  obtain ⟨F, ρ, δ, μ, rr, w, s, e, p⟩ := q
  unfold fFld at e
  cases h : fo δ μ with
  | none => rw [h] at e; cases e
  | some q =>
    obtain ⟨v, μ1⟩ := q
    rw [h] at e
    cases v with
    | error x => cases e; exact .inl ⟨F, ρ, δ, μ, _, w, s, h, p⟩
    | ok v =>
      rw [Rz.bind_ok] at e
      unfold fldO at e
      split at e
      · split at e
        · rename_i c gs hh
          split at e
          · rename_i y hy
            cases e
            obtain ⟨fs0, m1, m2⟩ := hasF_mem hh
            have cc := C.ins _ m1
            refine .inl ⟨F, ρ, δ, μ, _, w, s, h, fun x F1 ρ1 H1 g1 w1 r1 => ?_⟩
            cases r1 with
            | d r1 => cases r1 with
              | ins h1 h2 =>
                obtain ⟨u, hu, ru⟩ := rpF_look h2 hy
                exact ⟨_, _, _, _, u, rfl, w1.ex _ _ h1, by rw [← hK]; exact cc.cl, by rw [← hK, hf]; exact cc.nf _ m2, by rw [hf]; exact hu, p _ _ _ _ g1 w1 (.d ru)⟩
          · cases e
        · cases e
      · split at e
        · rename_i c gs hh
          split at e
          · rename_i y hy
            cases e
            obtain ⟨fs0, m1, m2⟩ := hasF_mem hh
            have cc := C.exc _ m1
            refine .inr ⟨F, ρ, δ, μ, _, w, s, h, fun x F1 ρ1 H1 g1 w1 r1 => ?_⟩
            cases r1 with
            | d r1 => cases r1 with
              | exc0 h1 => cases hy
              | excD h1 h2 h3 =>
                obtain ⟨u, hu, ru⟩ := rpF_look h3 hy
                exact ⟨_, _, _, _, u, rfl, w1.ex _ _ h1, w1.ex _ _ h2, by rw [← hK]; exact cc.ex, by rw [← hK]; exact cc.hd, by rw [← hK, hf]; exact cc.nf _ m2, by rw [hf]; exact hu, p _ _ _ _ g1 w1 (.d ru)⟩
          · cases e
        · cases e
      · rename_i n
        split at e
        · rename_i c gs hc
          split at e
          · rename_i hh
            split at e
            · rename_i y hy
              cases e
              obtain ⟨fs0, m1, m2⟩ := hasF_mem hh
              have cc := C.ins _ m1
              refine .inl ⟨F, ρ, δ, μ, _, w, s, h, fun x F1 ρ1 H1 g1 w1 r1 => ?_⟩
              cases r1 with
              | c hr =>
                obtain ⟨_, dx, vs, h1, h2⟩ := w1.cell _ _ _ hr hc
                obtain ⟨u, hu, ru⟩ := rsF_look h2 hy
                exact ⟨_, _, _, _, u, rfl, h1, by rw [← hK]; exact cc.cl, by rw [← hK, hf]; exact cc.nf _ m2, by rw [hf]; exact hu, p _ _ _ _ g1 w1 ru⟩
            · cases e
          · cases e
        · cases e
      · cases e
/-- o.f = e -/
def putZ (f : String) (v : Sv) : List (String × Sv) → List (String × Sv)
  | [] => [(f, v)]
  | (g, x) :: r => if g = f then (g, v) :: r else (g, x) :: putZ f v r
theorem rsF_put {m : String} {v : V} {y : Sv} (q : Rs G F ρ v y) : ∀ {fs : List (Str × V)} {gs : List (String × Sv)}, RsF G F ρ fs gs → RsF G F ρ (putF (Str.ofString m) v fs) (putZ m y gs)
  | _, _, .nil => .cons q .nil
  | _, _, .cons (k := k) h r => by
    unfold putZ putF
    by_cases e : k = m
    · subst e
      rw [if_pos rfl, if_pos rfl]
      exact .cons q r
    · rw [if_neg e, if_neg (fun z => e (ofString_inj z))]
      exact .cons h (rsF_put q r)
theorem RsF.len {vs : List (Str × V)} {xs : List (String × Sv)} (r : RsF G F ρ vs xs) : vs.length = xs.length := by
  induction r with
  | nil => rfl
  | cons _ _ ih => simp [ih]
def setF (ct : Ct) (f : String) (o v : Sv) (δ : Dl) (μ : Mu) : Sr := match o with
  | .c n => match μ[n]? with
    | some (.ins c fs) => if hasF ct.ins c f = true ∧ fs.length < 1000 then some (.nx, δ, μ.set n (.ins c (putZ f v fs))) else none
    | _ => none
  | _ => none
def sFld (ct : Ct) (f : String) (fo fv : Fz Sv) : Sz := fun δ μ => eS (fv δ μ) δ fun v μ => eS (fo δ μ) δ fun o μ => setF ct f o v δ μ
theorem zs_fld (C : CtOk G ct) (fS : String) (hf : f = Str.ofString fS) (hK : G.K = X.K) {fv : Fz Sv} {pos' : Pos} (ho : PE X o (zE G W fo)) (hv : PE X e (zE G W fv)) (hs : swapsWith e (some (.Attribute o f pos')) pos.line X.env = pure false := by rfl) :
    PS X (.Assign [.Attribute o f pos'] e pos) (zS G W (sFld ct fS fo fv)) := psImp (ps_fld ho hv hs) fun D σ H q => by
  obtain ⟨F, ρ, δ, μ, r, w, s, e, p⟩ := q
  refine zstepS w s e p fun sv μ1 y F1 ρ1 H1 g1 w1 s1 ry e1 p1 => ?_
  refine zstepS w1 s1 e1 p1 fun so μ2 x F2 ρ2 H2 g2 w2 s2 rx e2 p2 => ?_
  unfold setF at e2
  split at e2
  · rename_i n
    split at e2
    · rename_i c gs hc
      split at e2
      · rename_i hh
        cases e2
        obtain ⟨fs0, m1, m2⟩ := hasF_mem hh.1
        have cc := C.ins _ m1
        cases rx with
        | c hr =>
          obtain ⟨h0, dx, vs, h1, h2⟩ := w2.cell _ _ _ hr hc
          refine ⟨_, _, dx, vs, rfl, h1, by rw [← hK]; exact cc.cl, by rw [← hK, hf]; exact cc.nf _ m2, by rw [h2.len]; exact hh.2, ?_⟩
          have w3 := w2.setC hr h0 (c := .ins c (putZ fS sv gs)) (o := .ins (G.cls c) dx (putF f y vs)) ⟨h0, dx, _, by rw [upd_same], by rw [hf]; exact rsF_put (ry.mono g2) h2⟩
          exact p2.nx rfl w3 s2
      · cases e2
    · cases e2
  · cases e2
/-- o.f += e, whole numbers -/
def augF (ct : Ct) (f : String) (op : Int → Int → Int) (o : Sv) (k : Int) (old : Sv) (δ : Dl) (μ : Mu) : Sr := match old with
  | .d (.int i) => setF ct f o (.d (.int (op i k))) δ μ
  | _ => none
def sFldAug (ct : Ct) (f : String) (op : Int → Int → Int) (fo fv : Fz Sv) : Sz := fun δ μ => eS (fo δ μ) δ fun o μ => eS (fldO ct f o μ) δ fun old μ => eS (fv δ μ) δ fun v μ => match v with
  | .d (.int k) => augF ct f op o k old δ μ
  | _ => none
/-- C(..) -/
structure KGn (P : Program) (w : World) (G : Gx) (mg : Str → Option Value) (base : Heap) (x : Str) (c : String) (k : Nat) (fn : Fn) (dds : List D) : Prop where
  ok : ∃ f fd ps ds dvs j, j + 1 ≤ k ∧ mg x = some (.ref (G.cls c)) ∧ Mk G.K (G.cls c) f ∧ FnOk P w G.K mg base (L2.CX P w) j f fd ps (spF G fn) ∧ Binds G.K fd ps ds ∧ Vals dvs ds ∧ ∀ F, RpL G F dvs dds
theorem KGn.mono {P : Program} {w : World} {mg : Str → Option Value} {base : Heap} {x : Str} {c : String} {j k : Nat} {fn : Fn} {dds : List D} (g : KGn P w G mg base x c j fn dds) (h : j ≤ k) : KGn P w G mg base x c k fn dds := by
  obtain ⟨f, fd, ps, ds, dvs, i, a, b⟩ := g
  exact ⟨f, fd, ps, ds, dvs, i, by omega, b⟩
def mkZ (c : String) (fn : Fn) (ds : List D) (as : List Sv) (μ : Mu) : Rz Sv := match fn (.c μ.length :: (as ++ ds.map Sv.d)) (μ ++ [.ins c []]) with
  | some (.ok (.d .non), μ') => some (.ok (.c μ.length), μ')
  | some (.error x, μ') => some (.error x, μ')
  | _ => none
def fMk (c : String) (fn : Fn) (ds : List D) (fr : Fz (List Sv)) : Fz Sv := fun δ μ => (fr δ μ).bind fun as μ => mkZ c fn ds as μ
theorem Wf.plus (w : Wf G F ρ μ H) {q : Addr} (h : H q = none) (u : HO) : Wf G F ρ μ (upd H q u) := by
  refine ⟨fun a v e => ?_, w.len, w.nd, fun n a c h1 h2 => ?_, fun a ha => ?_⟩
  · have ne : a ≠ q := fun z => by rw [z, w.ex.none h] at e; cases e
    rw [upd_ne ne]; exact w.ex a v e
  · have ne : a ≠ q := fun z => w.out h (by rw [← z]; exact List.mem_of_getElem? h1)
    exact (w.cell n a c h1 h2).mono (Gr.refl _ _) rfl (upd_ne ne)
  · have ne : a ≠ q := fun z => w.out h (by rw [← z]; exact ha)
    rw [upd_ne ne]; exact w.dom a ha
theorem mk_at {c : String} {fn : Fn} {dds : List D} {σ : L2.St} {Q : VK} {vs dvs : List V} {as : List Sv} {rr : Except Exn Sv × Mu} (w : Wf G F ρ μ H) (r : RsL G F ρ vs as) (hd : ∀ F, RpL G F dvs dds) (e : mkZ c fn dds as μ = some rr) (p : Post G W σ F ρ (Rs G) Q rr) :
    ∀ x dx, H x = none → H dx = none → dx ≠ x → spF G fn (.ref x :: (vs ++ dvs)) (upd (upd H dx (.own x)) x (.ins (G.cls c) dx [])) (fun v H2 => v = .non ∧ Q (.ref x) H2) (fun c d H => W c d σ H) := by
  intro x dx hx hdx ne
  have w1 := w.plus hdx (.own x)
  have hx1 : upd H dx (.own x) x = none := by rw [upd_ne (fun z => ne z.symm)]; exact hx
  obtain ⟨w2, g2⟩ := w1.newC (p := x) (o := .ins (G.cls c) dx []) (c := .ins c []) hx1 ⟨w.ex.none hx, dx, [], upd_same, .nil⟩
  have hl : (ρ ++ [x])[μ.length]? = some x := by rw [← w.len]; simp
  unfold mkZ at e
  cases h : fn (.c μ.length :: (as ++ dds.map Sv.d)) (μ ++ [.ins c []]) with
  | none => rw [h] at e; cases e
  | some q =>
    obtain ⟨q, μ1⟩ := q
    rw [h] at e
    refine ⟨F, ρ ++ [x], μ ++ [.ins c []], _, _, w2, .cons (.c hl) ((r.mono g2).app (RsL.ofD (hd F))), h, ?_⟩
    cases q with
    | error z =>
      cases e
      exact fun c d F' ρ' H' g w' xr => p c d F' ρ' H' (g2.trans g) w' xr
    | ok v =>
      intro a F' ρ' H' g w' ra
      match v, e, ra with
      | .d .non, e, ra =>
        cases e
        cases ra with
        | d ra =>
          cases ra
          exact ⟨rfl, p _ _ _ _ (g2.trans g) w' (.c (g.at hl))⟩
theorem runmk {j : Nat} {f C : Addr} {fd : FuncData} {ps : List Str} {fn : Fn} {ds : List Value} {dvs : List V} {pins : List (Addr × Obj)} {σ : L2.St} {s : Shared} {Q : VK} {us : List Value} {vs : List V} (M : Mk X.K C f) (Fo : FnOk X.prog X.w X.K X.mg X.base (L2.CX X.prog X.w) j f fd ps (spF G fn))
    (hr : Room (j + 1) X.A) (hb : Binds X.K fd ps ds) (hd : Vals dvs ds) (px : Pz X W) (I : Inv X pins σ H s) (r : Vals vs us)
    (q : ∀ x dx, H x = none → H dx = none → dx ≠ x → spF G fn (.ref x :: (vs ++ dvs)) (upd (upd H dx (.own x)) x (.ins C dx [])) (fun v H2 => v = .non ∧ Q (.ref x) H2) (fun c d H => W c d σ H)) : wpAny (model X.prog X.w) X.A (call (.ref C) us) (EP X pins σ Q) X.xe s := by
  have n1 : H (s.heap.objs.size + 1) = none := I.hok.fresh (Nat.le_succ _)
  have n0 : H s.heap.objs.size = none := I.hok.fresh (Nat.le_refl _)
  have sp1 := q _ _ n1 n0 (Nat.ne_of_lt (Nat.lt_succ_self _))
  have J := Inv.made (C := C) I
  have rr : Vals (V.ref (s.heap.objs.size + 1) :: (vs ++ dvs)) (Value.ref (s.heap.objs.size + 1) :: (us ++ ds)) := .cons rfl (r.append hd)
  have ll : (Value.ref (s.heap.objs.size + 1) :: us ++ ds).length = ps.length := rr.length.symm.trans (Fo.len _ _ _ _ sp1)
  have bb := hb _ (Value.ref (s.heap.objs.size + 1) :: us) J.kIn ll
  have run := Fo.run _ X.stack _ _ ⟨Value.ref (s.heap.objs.size + 1) :: us, []⟩ (Value.ref (s.heap.objs.size + 1) :: (us ++ ds)) _ _ _ (hr.make C us []) (J.env0.make C us []) bb rr sp1
  refine wpAny_call (make_map (f := f) I.kIn M.makes M.init (beq_iff_eq.mp M.fn) (codeAny_mono run fun r s' z => ?_))
  match r, z with
  | .error e, z => exact px σ pins _ _ e s' J z
  | .ok (.ret u), z =>
    obtain ⟨v, H', J', rv, rfl, q3⟩ := J.after z
    exact ⟨rv, ⟨.ref _, H', J', rfl, q3⟩⟩
theorem z_mk {k : Nat} {c : String} {fn : Fn} {dds : List D} (g : KGn X.prog X.w G X.mg X.base x c k fn dds) (hK : G.K = X.K) (hr : Room k X.A) (px : Pz X W) (hg : Gl X x) (ha : PA X (e :: es) (zA G W fr)) (hdb : (x == ("__debug__" : Str)) = false := by decide)
    (he : starEach (e :: es) X.env = (false, eval e X.env) :: starEach es X.env := by rfl) (hpl : (backTo pos (starEach es X.env)).any (·.1) = false := by rfl) : PE X (.Call (.Name x p) (e :: es) [] pos) (zE G W (fMk c fn dds fr)) := ⟨fun pins s σ H Q I q => by
  obtain ⟨f, fd, ps, ds, dvs, j, hj, hm, M, Fo, hb, hd, hdd⟩ := g
  rw [hK] at M Fo hb
  obtain ⟨F, ρ, δ, μ, r, wf, sl, eq, po⟩ := q
  have q2 : zA G W fr σ H (fun vs H1 => ∀ x dx, H1 x = none → H1 dx = none → dx ≠ x → spF G fn (.ref x :: (vs ++ dvs)) (upd (upd H1 dx (.own x)) x (.ins (G.cls c) dx [])) (fun v H2 => v = .non ∧ Q (.ref x) H2) (fun c d H => W c d σ H)) :=
    zstep wf sl eq po fun sa μ1 vs F1 ρ1 H1 g1 w1 s1 rx e1 p1 => mk_at w1 rx hdd e1 p1
  refine wpAny_Call_Name_kw (ld_glob I hg hm ?_ hdb)
  refine PySem.W.callWith_K (h₀ := X.base) I.ok.mod.kin M.kp (thn (ha.run pos pins s σ H _ I q2) ?_) he hpl
  exact fun us s1 ⟨vs, H1, I1, r, q3⟩ => ⟨I1.kIn, runmk M Fo (hr.mono hj) hb hd px I1 r q3⟩⟩
theorem z_mk0 {k : Nat} {c : String} {fn : Fn} {dds : List D} (g : KGn X.prog X.w G X.mg X.base x c k fn dds) (hK : G.K = X.K) (hr : Room k X.A) (px : Pz X W) (hg : Gl X x) (hdb : (x == ("__debug__" : Str)) = false := by decide) : PE X (.Call (.Name x p) [] [] pos) (zE G W (fMk c fn dds fNil)) := ⟨fun pins s σ H Q I q => by
  obtain ⟨f, fd, ps, ds, dvs, j, hj, hm, M, Fo, hb, hd, hdd⟩ := g
  rw [hK] at M Fo hb
  obtain ⟨F, ρ, δ, μ, r, wf, sl, eq, po⟩ := q
  have q2 := mk_at (vs := []) (W := W) (σ := σ) wf .nil hdd (as := []) eq po
  refine wpAny_Call_Name_kw (ld_glob I hg hm ?_ hdb)
  exact PySem.W.callWith_K0 I.kIn M.kp (runmk (us := []) (vs := []) M Fo (hr.mono hj) hb hd px I .nil q2)⟩
/-! ### a function of a class, called by the class's name: C.m(self, ..) -/
structure UGn (P : Program) (w : World) (G : Gx) (mg : Str → Option Value) (base : Heap) (x m : Str) (k : Nat) (fn : Fn) (dds : List D) : Prop where
  ok : ∃ C mc f fd ps ds dvs, mg x = some (.ref C) ∧ PySem.W.specialIn G.K (.ref C) "__getattribute__" = some (some (.builtin "type.__getattribute__")) ∧ PySem.W.readsIn G.K C mc = true ∧ PySem.W.findCls G.K (.ref C) mc m = some (.val (.ref f)) ∧ PySem.W.keepIn G.K (.ref f) = true ∧ FnOk P w G.K mg base (L2.CX P w) k f fd ps (spF G fn) ∧ Binds G.K fd ps ds ∧ Vals dvs ds ∧ ∀ F, RpL G F dvs dds
end
end Z
namespace Z
open PySem PySem.Spec PyProof.Rows L2
/-! ### set(a list of whole numbers), sorted -/
abbrev newSet (w : World) : Obj := { cls := .type "set", dict := none, data := .set #[] 0 (.fresh 0 0 (!w.params.followText "set-order")) }
abbrev listIt (l : Addr) : Obj := { cls := .type "list_iterator", data := .fields #[.ref l, .int 0 0] }
section
variable {P : Program} {w : World} {A : Around} {E : Value → Shared → Prop} {s : Shared}
abbrev SetDone (w : World) (s : Shared) (ns : List Int) (s₂ : Shared) : Prop := ∃ (h' : Heap) (tk c : Nat), s₂ = { s with heap := h', toks := tk } ∧ SetR w h' s.heap.objs.size (fun j => decide (j ∈ ns)) c ∧ c ≤ ns.length ∧ ∀ b o, s.heap.get? b = some o → h'.get? b = some o
theorem init_set_list {A : Around} {l : Addr} {items : Array Value} (ns : List Int) (hh : A.handled = none) (hl : s.heap.IsList l items) (hit : IntsAre items.toList ns) (hb : ns.length + 1 < scanBound) :
    wpAny (model P w) A.in1 (Builtin.«set.__init__» ⟨[.ref s.heap.objs.size, .ref l], []⟩) (fun fin s' => match fin with
      | .done f => wants (fun r s₂ => r = .none ∧ SetDone w s ns s₂) E (.ok f) s'
      | .again c' => c'.quiet = true ∧ codeAny (model P w) A c' (wants (fun r s₂ => r = .none ∧ SetDone w s ns s₂) E) s') (fun e s' => wants (fun r s₂ => r = .none ∧ SetDone w s ns s₂) E (.error e) s') { s with heap := s.heap.push (newSet w) } := by
  have size : items.size = ns.length := by rw [← Array.length_toList]; exact IntsAre.length hit
  obtain ⟨⟨c0, d0, t0, s0⟩, there, rfl, n0, rfl⟩ := id hl
  have hS : (s.heap.push (newSet w)).get? s.heap.objs.size = some (newSet w) := Heap.get?_push_size _ rfl
  have there' : (s.heap.push (newSet w)).get? l = some ⟨.type "list", d0, .seq items n0, s0⟩ := Heap.get?_push_of_some _ there
  have sub1 := F.sub_list_set
  have sub2 := F.sub_list_frozenset
  have nd : (Value.type "list" == Value.type "dict") = false := by decide
  have isl : (s.heap.push (newSet w)).IsList l items := ⟨_, there', rfl, n0, rfl⟩
  unfold Builtin.«set.__init__» noKeywords Builtin.Frozenset.updateFrom
  generalize hPI : pyIter = PI
  wp_walk
  subst hPI
  refine wpAny_pyIter_list isl (wpAny_bind (wpAny_runValue ?_))
  have small : l < s.heap.objs.size := Heap.lt_size there
  have calm : A.in1.in1.handled = none := by simp [hh]
  have sz : (s.heap.push (newSet w)).objs.size = s.heap.objs.size + 1 := Heap.size_push ..
  have n1 : l ≠ (s.heap.push (newSet w)).objs.size := by rw [sz]; exact Nat.ne_of_lt (Nat.lt_succ_of_lt small)
  have n2 : s.heap.objs.size ∉ [(s.heap.push (newSet w)).objs.size, l] := by
    rw [sz]
    intro h
    rcases List.mem_cons.1 h with h | h
    · exact absurd h (Nat.ne_of_lt (Nat.lt_succ_self _))
    · exact absurd (List.mem_singleton.1 h) (Nat.ne_of_gt small)
  have val : ∀ (i : Nat) (v : Value), items[i]? = some v → ∃ k t, ns[i]? = some k ∧ v = .int k t := fun i v hv => by
    have hi : i < ns.length := by rw [← size]; exact (Array.getElem?_eq_some_iff.mp hv).1
    obtain ⟨t, e⟩ := IntsAre.int_at hit i v (by rw [Array.getElem?_toList]; exact hv)
    exact ⟨ns[i], t, List.getElem?_eq_getElem hi, by rw [e, List.getD_eq_getElem?_getD, List.getElem?_eq_getElem hi]; rfl⟩
  have got : ((s.heap.push (newSet w)).push (listIt l)).get? s.heap.objs.size = some (newSet w) := Heap.get?_push_of_some _ hS
  refine set_update_ints ((Walks.list calm _ l n1 items).toS) s.heap.objs.size n2 ns size hb val (items.size - 0) 0 _ (by omega) (Nat.zero_le _) ⟨⟨_, Heap.get?_push_size _ rfl, rfl, rfl⟩, isl.push _⟩ ?z ?_
  case z => exact ⟨0, Nat.le_refl 0, setR_new_at got⟩
  rintro ⟨h', g2, d', tk', os'⟩ c' mv hc hR
  obtain rfl : g2 = s.gens := mv.gens
  obtain rfl : d' = s.drawn := mv.drawn
  obtain rfl : os' = s.os := mv.os
  refine wpAny_pure (wpAny_pure ⟨rfl, h', tk', c', rfl, hR, by rw [← size]; exact hc, fun b o e => ?_⟩)
  have lt : b < s.heap.objs.size := Heap.lt_size e
  refine mv.heap b o (fun h => ?_) (Heap.get?_push_of_some _ (Heap.get?_push_of_some _ e))
  rcases List.mem_cons.1 h with h | h
  · exact absurd h (Nat.ne_of_lt lt)
  · have := List.mem_singleton.1 h
    rw [sz] at this
    exact absurd this (Nat.ne_of_lt (Nat.lt_succ_of_lt lt))
theorem call_setL {l : Addr} {items : Array Value} (ns : List Int) {Q : Value → Shared → Prop} (hh : A.handled = none) (hl : s.heap.IsList l items) (hit : IntsAre items.toList ns) (hb : ns.length + 1 < scanBound)
    (h : ∀ s₂, SetDone w s ns s₂ → Q (.ref s.heap.objs.size) s₂) : wpAny (model P w) A (call (.type "set") [.ref l]) Q E s := by
  obtain ⟨c, tl, hmro⟩ := F.called_set.mro
  have k1 := F.called_set.made
  have k2 := F.called_set.sub
  refine wpAny_call (codeAny_of_tree ?_)
  show wpAny _ _ (callAny (.type "set") _) _ _ _
  refine wpAny_pure ⟨Code.quiet_builtin _ (by decide +kernel), codeAny_builtin F.entry_type_call ?_⟩
  rw [Around.under_plain (weight_type_call_type "set" [.ref l] []) rfl]
  have k3 := F.called_set.notType
  have k4 := F.called_set.canCreate
  have k5 := F.typeCall_set_1 (.ref l)
  repeat (any_goals (first | assumption | wp_step))
  refine codeAny_mono (code_set_led1 (.ref l) (E := E) (Q₁ := fun obj s₁ => obj = .ref s.heap.objs.size ∧ s₁ = { s with heap := s.heap.push (newSet w) }) ⟨rfl, rfl⟩) fun r s₁ hr => ?_
  match r, hr with
  | .error e, hr => exact hr
  | .ok (.ret obj), hr =>
    obtain ⟨rfl, rfl⟩ := hr
    have hS : (s.heap.push (newSet w)).get? s.heap.objs.size = some (newSet w) := Heap.get?_push_size _ rfl
    have hT : Shared.TypeIs { s with heap := s.heap.push (newSet w) } (.ref s.heap.objs.size) "set" := ⟨_, hS, rfl⟩
    have k6 := F.called_set.init.lookup
    have k7 := F.called_set.init.bind (.ref s.heap.objs.size)
    repeat (any_goals (first | assumption | wp_step))
    refine codeAny_mono (codeAny_call_builtin (R := wants (fun r s₂ => r = .none ∧ SetDone w s ns s₂) E) F.called_set.init.plain F.entry_set_init (check_set_init_1 hT (init_set_list ns (by simpa using hh) hl hit hb))) fun r₂ s₂ hr₂ => ?_
    match r₂, hr₂ with
    | .error e, hr₂ => exact hr₂
    | .ok (.ret r), hr₂ =>
      obtain ⟨rfl, dn⟩ := hr₂
      have dn' := dn
      obtain ⟨h', tk, c, rfl, hR, hc, hk⟩ := dn
      repeat (any_goals (first | assumption | wp_step))
      exact h _ dn'
end

/-- strictly rising, each once -/
def insU (x : Int) : List Int → List Int
  | [] => [x]
  | y :: r => if x < y then x :: y :: r else if x = y then y :: r else y :: insU x r
def sortU : List Int → List Int
  | [] => []
  | x :: r => insU x (sortU r)
theorem mem_insU (x k : Int) : ∀ l : List Int, k ∈ insU x l ↔ k = x ∨ k ∈ l
  | [] => by simp [insU]
  | y :: r => by
    unfold insU
    split
    · simp
    · split
      · rename_i e; subst e; simp
      · simp [mem_insU x k r]; constructor
        · rintro (h | h | h) <;> simp [h]
        · rintro (h | h | h) <;> simp [h]
theorem insU_pw (x : Int) : ∀ {l : List Int}, l.Pairwise (· < ·) → (insU x l).Pairwise (· < ·)
  | [], _ => by simp [insU]
  | y :: r, h => by
    unfold insU
    split
    · rename_i lt
      refine List.pairwise_cons.2 ⟨fun z hz => ?_, h⟩
      rcases List.mem_cons.1 hz with rfl | hz
      · exact lt
      · have := (List.pairwise_cons.1 h).1 z hz; omega
    · split
      · exact h
      · rename_i n1 n2
        refine List.pairwise_cons.2 ⟨fun z hz => ?_, insU_pw x (List.pairwise_cons.1 h).2⟩
        rcases (mem_insU x z r).1 hz with rfl | hz
        · omega
        · exact (List.pairwise_cons.1 h).1 z hz
theorem sortU_pw : ∀ l : List Int, (sortU l).Pairwise (· < ·)
  | [] => List.Pairwise.nil
  | x :: r => insU_pw x (sortU_pw r)
theorem mem_sortU (k : Int) : ∀ l : List Int, k ∈ sortU l ↔ k ∈ l
  | [] => by simp [sortU]
  | x :: r => by simp [sortU, mem_insU, mem_sortU k r]
theorem pw_uniq : ∀ {l m : List Int}, l.Pairwise (· < ·) → m.Pairwise (· < ·) → (∀ k, k ∈ l ↔ k ∈ m) → l = m
  | [], [], _, _, _ => rfl
  | [], y :: m, _, _, h => absurd ((h y).2 (by simp)) (by simp)
  | x :: l, [], _, _, h => absurd ((h x).1 (by simp)) (by simp)
  | x :: l, y :: m, hl, hm, h => by
    have a := List.pairwise_cons.1 hl
    have b := List.pairwise_cons.1 hm
    have e : x = y := by
      have h1 := (h x).1 (by simp)
      have h2 := (h y).2 (by simp)
      rcases List.mem_cons.1 h1 with h1 | h1
      · exact h1
      · rcases List.mem_cons.1 h2 with h2 | h2
        · exact h2.symm
        · have := a.1 y h2
          have := b.1 x h1
          omega
    subst e
    congr 1
    refine pw_uniq a.2 b.2 fun k => ⟨fun hk => ?_, fun hk => ?_⟩
    · rcases List.mem_cons.1 ((h k).1 (by simp [hk])) with e | e
      · subst e; have := a.1 k hk; omega
      · exact e
    · rcases List.mem_cons.1 ((h k).2 (by simp [hk])) with e | e
      · subst e; have := b.1 k hk; omega
      · exact e
theorem sortU_id {l : List Int} (h : l.Pairwise (· < ·)) : sortU l = l := pw_uniq (sortU_pw l) h fun k => mem_sortU k l
section
variable {G : Gx} {X : Cx} {W : WX} {F : Hp} {ρ : List Addr} {μ : Mu} {H : Hp} {a b c : Expr} {fa fb fc : Fz Sv} {fr : Fz (List Sv)} {pos p p2 p0 : Pos} {tg : Expr}
/-- set(list of ints) -/
def rSetI (K : PySem.W.Frag) (w : World) : List V → Hp → VK → Prop := fun vs H Q => ∃ (l : Addr) (ns : List Int), vs = [V.ref l] ∧ SqL K H l (ns.map V.int) ∧ ns.length < 64 ∧
  ∀ (q : Addr) (S : Int → Bool) (n : Nat), H q = none → (∀ k, S k = true ↔ k ∈ ns) → n ≤ ns.length → Q (.ref q) (upd H q (SetO w q S n))
theorem ints_at : ∀ {ns : List Int} {its : List Value}, Vals (ns.map V.int) its → IntsAre its ns
  | [], _, .nil => .nil
  | n :: r, _, .cons h t => by
    obtain ⟨tk, rfl⟩ := h
    exact .cons _ _ (ints_at t)
theorem cr_setI (hc : X.calm = true) : CallR X (.type "set") (rSetI X.K X.w) := by
  intro pins s σ H vs us Q I r h
  obtain ⟨l, ns, rfl, hl, hn, q⟩ := h
  rw [Vals.ref1 r]
  obtain ⟨its, rv, pl, hz⟩ := I.list hl
  refine call_setL ns (I.ok.hd hc) pl.isList (by simpa using ints_at rv) (by unfold scanBound; omega) fun s2 ⟨h', tk, c, e, hR, hcn, hk⟩ => ?_
  subst e
  have hq : H s.heap.objs.size = none := I.hok.fresh (Nat.le_refl _)
  exact ⟨.ref _, upd H s.heap.objs.size (SetO X.w s.heap.objs.size (fun j => decide (j ∈ ns)) c), I.laid (t' := tk) hk (Nat.le_refl _) (setO_new hR), rfl, q _ _ _ hq (fun k => by simp) hcn⟩
/-- sorted(set(xs)) -/
def fSortS (fa : Fz Sv) : Fz Sv := fun δ μ => (fa δ μ).bind fun v μ => match (lstV μ v).bind toIs with
  | some ns => if ns.length < 64 then okz (.lst ((sortU ns).map D.int)) μ else none
  | none => none
theorem rpl_ints : ∀ l : List Int, RpL G F (l.map V.int) (l.map D.int)
  | [] => .nil
  | n :: r => .cons (.int n) (rpl_ints r)
theorem z_sortS (hK : G.K = X.K) (hc : X.calm = true) (hg : Gl X "sorted") (hm : X.mg "sorted" = none) (hg2 : Gl X "set") (hm2 : X.mg "set" = none) (ha : PE X a (zE G W fa))
    (na : starEach [.Call (.Name "set" p2) [a] [] p] X.env = (false, eval (.Call (.Name "set" p2) [a] [] p) X.env) :: starEach [] X.env := by rfl) (nb : starEach [a] X.env = (false, eval a X.env) :: starEach [] X.env := by rfl) :
    PE X (.Call (.Name "sorted" p0) [.Call (.Name "set" p2) [a] [] p] [] pos) (zE G W (fSortS fa)) :=
  peImp (pe_callB (cr_sortedSet hc) hg hm (by decide +kernel) (pa_cons (pe_callTy (cr_setI hc) hg2 hm2 (by decide +kernel) (pa_cons ha pa_nil nb) (by decide) (by decide) nb (by rfl)) pa_nil na) (by decide) (by decide) na (by rfl)) fun σ H Q q => by
  obtain ⟨F, ρ, δ, μ, rr, w, s, e, p⟩ := q
  refine zstep w s e p fun sa μ1 v F1 ρ1 H1 g1 w1 s1 rv e1 p1 => ?_
  split at e1
  · rename_i ns hns
    split at e1
    · rename_i hl
      cases e1
      cases hv : lstV μ1 sa with
      | none => rw [hv] at hns; cases hns
      | some xs =>
        rw [hv] at hns
        obtain ⟨l, vs, rfl, h1, h2⟩ := lstV_at w1 rv hv
        have ev := toIs_at h2 hns
        subst ev
        refine ⟨l, ns, rfl, by rw [← hK]; exact h1, hl, fun q S n hq hS hn => ?_⟩
        refine ⟨q, S, n, rfl, upd_same, by omega, fun ms p2 pw mem hlen hp2 => ?_⟩
        have em : ms = sortU ns := pw_uniq pw (sortU_pw ns) fun k => by rw [mem, hS, mem_sortU]
        subst em
        have w2 := w1.plus hq (SetO X.w q S n)
        obtain ⟨w3, g3⟩ := w2.newD hp2 (.lst ((sortU ns).map V.int))
        exact p1 _ _ _ _ g3 w3 (.d (.lst (SqL.of upd_same) (rpl_ints _)))
    · cases e1
  · cases e1
/-- list(range(a, b, -1)) -/
def rngC (lo c : Int) (n : Nat) : List Int := (List.range n).map fun i => lo + (i : Nat) * c
def lrg3O (as : List Sv) (μ : Mu) : Rz Sv := match as with
  | [.d (.int i), .d (.int j), .d (.int k)] => if k = -1 ∧ -16777216 ≤ j ∧ j ≤ 16777216 ∧ -16777216 ≤ i ∧ i ≤ 16777216 ∧ i - j ≤ 16777216 then okz (.lst ((rngC i (-1) (i - j).toNat).map D.int)) μ else none
  | _ => none
def fLRg3 (fr : Fz (List Sv)) : Fz Sv := fun δ μ => (fr δ μ).bind fun as μ => lrg3O as μ
def fRng3 (fr : Fz (List Sv)) : Fz (List Sv) := fun δ μ => (fr δ μ).bind fun as μ => match as with
  | [.d (.int i), .d (.int j), .d (.int k)] => if k = -1 ∧ -(2 ^ 62) ≤ j ∧ j < 2 ^ 62 ∧ -(2 ^ 62) ≤ i ∧ i < 2 ^ 62 then some (.ok ((rngC i (-1) (i - j).toNat).map fun i => .d (.int i)), μ) else none
  | _ => none
theorem wk_rngC (lo c : Int) (n : Nat) : WalkOk G F ρ (Itc lo c n) ((rngC lo c n).map fun i => Sv.d (.int i)) := by
  intro F' ρ' μ' H' g w i
  refine ⟨fun hi => ?_, fun y hy => ?_⟩
  · show n ≤ i
    simpa [rngC] using hi
  · unfold rngC at hy
    rw [List.getElem?_map, List.getElem?_map] at hy
    by_cases hi : i < n
    · rw [List.getElem?_range hi] at hy
      have hy' : Sv.d (.int (lo + (i : Nat) * c)) = y := Option.some.inj hy
      subst hy'
      refine ⟨hi, fun v H'' ⟨e1, ev⟩ => ?_⟩
      subst e1 ev
      exact ⟨F', ρ', Gr.refl _ _, w, .d (.int _)⟩
    · rw [List.getElem?_eq_none (by simpa using hi)] at hy; cases hy
theorem zi_rng3 (hg : Gl X "range") (hm : X.mg "range" = none) (ha : PA X [a, b, c] (zA G W fr)) (hs : starEach [a, b, c] X.env = (false, eval a X.env) :: starEach [b, c] X.env := by rfl) (hpl : (backTo pos (starEach [b, c] X.env)).any (·.1) = false := by rfl) :
    PI X tg (.Call (.Name "range" p) [a, b, c] [] pos) (zI G W (fRng3 fr)) := piImp (pi_range3 hg hm ha hs hpl) fun σ H R q => by
  obtain ⟨F, ρ, δ, μ, rr, w, s, e, p⟩ := q
  refine zstep w s e p fun sa μ1 x F1 ρ1 H1 g1 w1 s1 rx e1 p1 => ?_
  split at e1
  · split at e1
    · rename_i hb
      obtain ⟨rfl, hb⟩ := hb
      cases e1
      cases rx with | cons r t => cases t with | cons r2 t => cases t with | cons r3 t => cases t; cases r with | d r => cases r; cases r2 with | d r2 => cases r2; cases r3 with | d r3 => cases r3; exact ⟨_, _, _, _, rfl, RgC.neg hb.2.2.1 hb.2.2.2 hb.1 hb.2.1, p1.ok w1 (wk_rngC _ _ _)⟩
    · cases e1
  · cases e1
def tLRg3 (ta : TA) : TE := fun σ H Q => ta σ H fun vs H1 => ∃ (i j : Int), vs = [.int i, .int j, .int (-1)] ∧ (-(2 ^ 62) ≤ i ∧ i < 2 ^ 62 ∧ -(2 ^ 62) ≤ j ∧ j < 2 ^ 62 ∧ i - j ≤ 16777216) ∧ ∀ q, H1 q = none → Q (.ref q) (upd H1 q (.lst ((rngC i (-1) (i - j).toNat).map V.int)))
theorem pe_lrg3 {ta : TA} (hc : X.calm = true) (hg : Gl X "list") (hm : X.mg "list" = none) (hg2 : Gl X "range") (hm2 : X.mg "range" = none) (ha : PA X [a, b, c] ta)
    (na : starEach [.Call (.Name "range" p2) [a, b, c] [] p] X.env = (false, eval (.Call (.Name "range" p2) [a, b, c] [] p) X.env) :: starEach [] X.env := by rfl) (hs : starEach [a, b, c] X.env = (false, eval a X.env) :: starEach [b, c] X.env := by rfl) (hpl : (backTo p (starEach [b, c] X.env)).any (·.1) = false := by rfl) :
    PE X (.Call (.Name "list" p0) [.Call (.Name "range" p2) [a, b, c] [] p] [] pos) (tLRg3 ta) := by
  refine ⟨fun pins s σ H Q I h => ?_⟩
  have rg : wpAny (model X.prog X.w) X.A (eval (.Call (.Name "range" p2) [a, b, c] [] p) X.env) (fun x s' => ∃ (r : Addr) (i j : Int) (t u v : Tok) (H' : Hp), x = .ref r ∧ IsRange s'.heap r i j (-1) t u v ∧ Inv X pins σ H' s' ∧ (-(2 ^ 62) ≤ i ∧ i < 2 ^ 62 ∧ -(2 ^ 62) ≤ j ∧ j < 2 ^ 62 ∧ i - j ≤ 16777216) ∧
      ∀ q, H' q = none → Q (.ref q) (upd H' q (.lst ((rngC i (-1) (i - j).toNat).map V.int)))) X.xe s := by
    refine Call_ (ld_blt I hg2 hm2 boot_range (PyProof.Rows.callWith_type1 (thn (ha.run p pins s σ H _ I h) fun us s1 ⟨vs, H1, I1, r1, i, j, ev, hb, q⟩ => ?_) hs hpl))
    subst ev
    cases r1 with
    | cons x1 r1 =>
    cases r1 with
    | cons x2 r1 =>
    cases r1 with
    | cons x3 r1 =>
      cases r1
      obtain ⟨t, rfl⟩ := (show ∃ t, _ = Value.int i t from x1)
      obtain ⟨u, rfl⟩ := (show ∃ t, _ = Value.int j t from x2)
      obtain ⟨v, rfl⟩ := (show ∃ t, _ = Value.int (-1) t from x3)
      exact call_range_3 (by decide) ⟨_, i, j, _, _, _, H1, rfl, IsRange.new _ _ _ _ _ _ _, I1.kept fun b o e => Heap.get?_push_of_some _ e, hb, q⟩ (.inl (PyProof.noPylong_small (by decide)))
  refine Call_ (ld_blt I hg hm boot_list (PyProof.Rows.callWith_type1 (args_cons (thn rg fun x s1 hh => args_nil ?_) na) na))
  obtain ⟨r, i, j, t, u, v, H1, rfl, hr, I1, hb, q⟩ := hh
  refine call_list_range (n := (i - j).toNat) (I1.ok.hd hc) hr (PySem.W.small_down hb.1 hb.2.1 hb.2.2.1 hb.2.2.2.1) (PySem.W.rangeSize_downNat i j) (by omega) fun h' tk acc c' hk e' hi => ?_
  have hv : Vals ((rngC i (-1) (i - j).toNat).map V.int) acc.toList := by
    refine vals_of_at (by unfold rngC; simp [hi.1]) fun m x u h1 h2 => ?_
    obtain ⟨t', ht⟩ := hi.2 m u (by rw [← Array.getElem?_toList]; exact h2)
    unfold rngC at h1
    rw [List.getElem?_map, List.getElem?_map] at h1
    by_cases hm : m < (i - j).toNat
    · rw [List.getElem?_range hm] at h1
      cases h1; subst ht
      exact ⟨t', rfl⟩
    · rw [List.getElem?_eq_none (by simpa using hm)] at h1; cases h1
  refine ⟨.ref s1.heap.objs.size, upd H1 s1.heap.objs.size (.lst ((rngC i (-1) (i - j).toNat).map V.int)), I1.laid hk (Nat.le_refl _) (show ObjOk X.prog X.w _ _ _ (.lst _) from ⟨?_, acc.toList, c', hv, ?_⟩), rfl, q _ (I1.hok.fresh (Nat.le_refl _))⟩
  · rw [szl]; unfold rngC; simp; omega
  · rw [Array.toArray_toList]; exact e'
theorem z_lrg3 (hc : X.calm = true) (hg : Gl X "list") (hm : X.mg "list" = none) (hg2 : Gl X "range") (hm2 : X.mg "range" = none) (ha : PA X [a, b, c] (zA G W fr))
    (na : starEach [.Call (.Name "range" p2) [a, b, c] [] p] X.env = (false, eval (.Call (.Name "range" p2) [a, b, c] [] p) X.env) :: starEach [] X.env := by rfl) (hs : starEach [a, b, c] X.env = (false, eval a X.env) :: starEach [b, c] X.env := by rfl) (hpl : (backTo p (starEach [b, c] X.env)).any (·.1) = false := by rfl) :
    PE X (.Call (.Name "list" p0) [.Call (.Name "range" p2) [a, b, c] [] p] [] pos) (zE G W (fLRg3 fr)) := peImp (pe_lrg3 hc hg hm hg2 hm2 ha na hs hpl) fun σ H Q q => by
  obtain ⟨F, ρ, δ, μ, rr, w, s, e, p⟩ := q
  refine zstep w s e p fun sa μ1 v F1 ρ1 H1 g1 w1 s1 rv e1 p1 => ?_
  unfold lrg3O at e1
  split at e1
  · split at e1
    · rename_i hb
      obtain ⟨rfl, hb⟩ := hb
      cases e1
      cases rv with | cons r t => cases t with | cons r2 t => cases t with | cons r3 t => cases t; cases r with | d r => cases r; cases r2 with | d r2 => cases r2; cases r3 with | d r3 => cases r3; exact ⟨_, _, rfl, by omega, fun q hq => by
        obtain ⟨w2, g2⟩ := w1.newD hq (.lst ((rngC _ (-1) _).map V.int))
        exact p1 _ _ _ _ g2 w2 (.d (.lst (SqL.of upd_same) (rpl_ints _)))⟩
    · cases e1
  · cases e1
end
end Z
namespace Z
open PySem PySem.Spec PyProof.Rows L2
section
variable {P : Except Exn Sv → Mu → Prop} {Pl : Except Exn (List Sv) → Mu → Prop} {δ : Dl} {μ : Mu}
def rng3O (as : List Sv) (μ : Mu) : Rz (List Sv) := match as with
  | [.d (.int i), .d (.int j), .d (.int k)] => if k = -1 ∧ -(2 ^ 62) ≤ j ∧ j < 2 ^ 62 ∧ -(2 ^ 62) ≤ i ∧ i < 2 ^ 62 then some (.ok ((rngC i (-1) (i - j).toNat).map fun i => .d (.int i)), μ) else none
  | _ => none
def sortSO (v : Sv) (μ : Mu) : Rz Sv := match (lstV μ v).bind toIs with
  | some ns => if ns.length < 64 then okz (.lst ((sortU ns).map D.int)) μ else none
  | none => none
@[simp] theorem Ev_lrg3 (fr : Fz (List Sv)) : Ev (fLRg3 fr δ μ) P = Ev (fr δ μ) (fun e μ => okc e (fun a => Ev (lrg3O a μ) P) (fun x => P (.error x) μ)) := by
  show Ev (Rz.bind _ (fun a μ => lrg3O a μ)) _ = _
  rw [Ev_bind]
@[simp] theorem Ev_rng3 (fr : Fz (List Sv)) : Ev (fRng3 fr δ μ) Pl = Ev (fr δ μ) (fun e μ => okc e (fun a => Ev (rng3O a μ) Pl) (fun x => Pl (.error x) μ)) := by
  show Ev (Rz.bind _ (fun a μ => rng3O a μ)) _ = _
  rw [Ev_bind]
@[simp] theorem Ev_sortS (fa : Fz Sv) : Ev (fSortS fa δ μ) P = Ev (fa δ μ) (fun e μ => okc e (fun a => Ev (sortSO a μ) P) (fun x => P (.error x) μ)) := by
  show Ev (Rz.bind _ (fun a μ => sortSO a μ)) _ = _
  rw [Ev_bind]
@[simp] theorem Ev_lrg3O (i j k : Int) : Ev (lrg3O [.d (.int i), .d (.int j), .d (.int k)] μ) P = ((k = -1 ∧ -16777216 ≤ j ∧ j ≤ 16777216 ∧ -16777216 ≤ i ∧ i ≤ 16777216 ∧ i - j ≤ 16777216) ∧ P (.ok (.d (.lst ((rngC i (-1) (i - j).toNat).map D.int)))) μ) := by
  unfold lrg3O; dsimp only
  apply propext
  split
  · rename_i h; simp [h]
  · rename_i h
    constructor
    · rintro ⟨_, _, e, _⟩; cases e
    · exact fun q => absurd q.1 h
@[simp] theorem Ev_rng3O (i j k : Int) : Ev (rng3O [.d (.int i), .d (.int j), .d (.int k)] μ) Pl = ((k = -1 ∧ -4611686018427387904 ≤ j ∧ j < 4611686018427387904 ∧ -4611686018427387904 ≤ i ∧ i < 4611686018427387904) ∧ Pl (.ok ((rngC i (-1) (i - j).toNat).map fun i => .d (.int i))) μ) := by
  unfold rng3O; dsimp only
  apply propext
  split
  · rename_i h; simp at h; simp [h]
  · rename_i h
    constructor
    · rintro ⟨_, _, e, _⟩; cases e
    · exact fun q => absurd (by simpa using q.1) h
theorem sortSO_l (l : List Int) (h : l.length < 64) : sortSO (.d (.lst (l.map D.int))) μ = okz (.lst ((sortU l).map D.int)) μ := by
  unfold sortSO
  have : (lstV μ (.d (.lst (l.map D.int)))).bind toIs = some l := by
    simp only [lstV, Option.bind_some, List.map_map]
    exact toIs_map l
  rw [this]; dsimp only; rw [if_pos h]
theorem rngC_at {lo c : Int} {n i : Nat} {x : Sv} (h : ((rngC lo c n).map fun i => Sv.d (.int i))[i]? = some x) : i < n ∧ x = .d (.int (lo + (i : Int) * c)) := by
  by_cases hi : i < n
  · rw [List.getElem?_map, rngC, List.getElem?_map, List.getElem?_range hi] at h
    exact ⟨hi, by cases h; rfl⟩
  · rw [List.getElem?_eq_none (by simp [rngC]; omega)] at h; cases h
@[simp] theorem rngC_len (lo c : Int) (n : Nat) : (rngC lo c n).length = n := by simp [rngC]
end
end Z
namespace Z
open PySem PySem.Spec PyProof.Rows L2
/-! ## zip of any two inner iterators; of a list and a tuple -/
/-- an inner iterator at i over what lies at l: St h k says that it stands at k of xs -/
structure Feed (i l : Addr) (xs : Array Value) (St : Heap → Nat → Prop) : Prop where
  keep : ∀ {h h' : Heap} {k : Nat}, St h k → (∀ o, h.get? i = some o → h'.get? i = some o) → (∀ o, h.get? l = some o → h'.get? l = some o) → St h' k
  at_ : ∀ {h : Heap} {k : Nat}, St h k → ∃ o, h.get? i = some o
  item : ∀ {prog : Program} {w : World} {A : Around} {E : Value → Shared → Prop} {s : Shared} {k : Nat} {x : Value} {Q : Value → Shared → Prop}, St s.heap k → xs[k]? = some x →
    (∀ h', St h' (k + 1) → Heap.SameBut i s.heap h' → Q x { s with heap := h' }) → wpAny (model prog w) A (Builtin.SmallTypes.nextOf (.ref i)) Q E s
  stop : ∀ {prog : Program} {w : World} {A : Around} {E : Value → Shared → Prop} {s : Shared} {k : Nat} {Q : Value → Shared → Prop}, A.handled = none → St s.heap k → xs[k]? = none →
    (∀ h' e, Heap.ExtBut i s.heap h' → (∃ o, h'.get? e = some o ∧ o.cls = .type "StopIteration") → E (.ref e) { s with heap := h' }) → wpAny (model prog w) A (Builtin.SmallTypes.nextOf (.ref i)) Q E s
section
variable {i l : Addr} {xs : Array Value} {St : Heap → Nat → Prop}
theorem Feed.stay (f : Feed i l xs St) {h h' : Heap} {b : Addr} {k : Nat} (h1 : i ≠ b) (h2 : l ≠ b) (e : Heap.ExtBut b h h') (s : St h k) : St h' k :=
  f.keep s (fun o q => e _ o h1 q) (fun o q => e _ o h2 q)
theorem feed_list (hne : l ≠ i) : Feed i l xs fun h k => h.IsListIter i l k ∧ h.IsList l xs where
  keep := fun s a b => ⟨s.1.at a, s.2.at b⟩
  at_ := fun s => let ⟨o, e, _⟩ := s.1; ⟨o, e⟩
  item := fun s hx q => wpAny_nextOf_list_item s.1 s.2 hx fun h' h1 hs => q h' ⟨h1, s.2.extBut hs.extBut hne⟩ hs
  stop := fun hh s hx q => wpAny_nextOf_list_end hh s.1 s.2 hx q
theorem tup_at {h h' : Heap} (s : h.IsTuple l xs) (b : ∀ o, h.get? l = some o → h'.get? l = some o) : h'.IsTuple l xs := let ⟨o, e, r⟩ := s; ⟨o, b o e, r⟩
theorem feed_tuple (hne : l ≠ i) : Feed i l xs fun h k => h.IsTupleIter i l k ∧ h.IsTuple l xs where
  keep := fun s a b => ⟨let ⟨o, e, r⟩ := s.1; ⟨o, a o e, r⟩, tup_at s.2 b⟩
  at_ := fun s => let ⟨o, e, _⟩ := s.1; ⟨o, e⟩
  item := fun s hx q => RZ.nextOf_tuple_item s.1 s.2 hx fun h' h1 hs => q h' ⟨h1, s.2.extBut hs.extBut hne⟩ hs
  stop := fun hh s hx q => RZ.nextOf_tuple_end hh s.1 s.2 hx q
end
section
variable {prog : Program} {w : World} {A : Around} {E : Value → Shared → Prop} {s : Shared} {z TI TO i1 i2 l1 l2 : Addr} {k1 k2 : Nat} {xs ys : Array Value} {x y a b : Value} {S1 S2 : Heap → Nat → Prop}
theorem zipF_next_item {Q : Value → Shared → Prop} (D : ZipApart z TI TO i1 i2 l1 l2) (f1 : Feed i1 l1 xs S1) (f2 : Feed i2 l2 ys S2)
    (hz : IsZip s.heap z TI TO .none) (hTI : IsPair s.heap TI (.ref i1) (.ref i2)) (hTO : IsPair s.heap TO a b) (h1 : S1 s.heap k1) (h2 : S2 s.heap k2) (hx : xs[k1]? = some x) (hy : ys[k2]? = some y)
    (hQ : ∀ h', IsZip h' z TI TO (rawInt s.heap.objs.size) → IsPair h' TO x y → S1 h' (k1 + 1) → S2 h' (k2 + 1) → IsPair h' s.heap.objs.size x y → h'.objs.size = s.heap.objs.size + 1 →
      (∀ c o, c ≠ z → c ≠ TO → c ≠ i1 → c ≠ i2 → s.heap.get? c = some o → h'.get? c = some o) → Q (.ref s.heap.objs.size) { s with heap := h' }) :
    wpAny (model prog w) A (Builtin.«zip.__next__» ⟨[.ref z], []⟩) (fun fin s' => ∃ v, fin = .done (.ret v) ∧ Q v s') E s := by
  show wpAny _ _ (field (.ref z) 2 >>= _) _ _ _
  refine wpAny_bind (wpAny_field hz rfl (x := .bool false) rfl ?_)
  show wpAny _ _ (field (.ref z) 3 >>= _) _ _ _
  refine wpAny_bind (wpAny_field hz rfl (x := .ref TI) rfl ?_)
  refine wpAny_bind (wpAny_seqItems hTI rfl ?_)
  show wpAny _ _ (Builtin.SmallTypes.ownedTupleIsFree (.ref z) >>= _) _ _ _
  refine wpAny_bind ?_
  unfold Builtin.SmallTypes.ownedTupleIsFree
  refine wpAny_bind (wpAny_field hz rfl (x := .none) rfl (wpAny_pure ?_))
  simp only [if_true]
  refine wpAny_bind (wpAny_rule ?_)
  refine wpAny_bind (wpAny_field hz rfl (x := .ref TO) rfl ?_)
  refine wpAny_bind (wpAny_setField_rec hz (by simp) fun h₁ hz₁ hs₁ => ?_)
  replace hz₁ : IsZip h₁ z TI TO .ellipsis := hz₁
  refine wpAny_bind ?_
  simp only [List.zipIdx_cons, List.zipIdx_nil, List.forIn_cons, List.forIn_nil]
  refine wpAny_bind (wpAny_bind (wpAny_onRaise ?_))
  show wpAny _ _ (Builtin.SmallTypes.nextOf (.ref i1) >>= _) _ _ _
  refine wpAny_bind (f1.item (f1.stay D.i1z D.l1z hs₁.extBut h1) hx fun h₂ h1₂ hs₂ => wpAny_pure ?_)
  have hTO₂ : IsPair h₂ TO a b := hs₂.extBut _ _ D.TOi1 (hs₁.extBut _ _ D.TOz hTO)
  refine wpAny_bind (wpAny_seqItems hTO₂ rfl ?_)
  refine wpAny_bind (wpAny_updateSeq_pair hTO₂ fun h₃ hTO₃ hs₃ => ?_)
  replace hTO₃ : IsPair h₃ TO x b := hTO₃
  refine wpAny_bind (wpAny_letGo (wpAny_pure ?_))
  refine wpAny_bind (wpAny_bind (wpAny_onRaise ?_))
  show wpAny _ _ (Builtin.SmallTypes.nextOf (.ref i2) >>= _) _ _ _
  refine wpAny_bind (f2.item (f2.stay D.TOi2.symm D.l2TO hs₃.extBut (f2.stay D.i12.symm D.l2i1 hs₂.extBut (f2.stay D.i2z D.l2z hs₁.extBut h2))) hy fun h₄ h2₄ hs₄ => wpAny_pure ?_)
  have hTO₄ : IsPair h₄ TO x b := hs₄.extBut _ _ D.TOi2 hTO₃
  refine wpAny_bind (wpAny_seqItems hTO₄ rfl ?_)
  refine wpAny_bind (wpAny_updateSeq_pair hTO₄ fun h₅ hTO₅ hs₅ => ?_)
  replace hTO₅ : IsPair h₅ TO x y := hTO₅
  refine wpAny_bind (wpAny_letGo (wpAny_pure (wpAny_pure ?_)))
  refine wpAny_bind (wpAny_seqItems hTO₅ rfl ?_)
  refine wpAny_bind (wpAny_newTuple ?_)
  have hsz : h₅.objs.size = s.heap.objs.size := by rw [hs₅.1, hs₄.1, hs₃.1, hs₂.1, hs₁.1]
  have hz₅ : IsZip h₅ z TI TO .ellipsis := hs₅.extBut _ _ D.TOz.symm (hs₄.extBut _ _ D.i2z.symm (hs₃.extBut _ _ D.TOz.symm (hs₂.extBut _ _ D.i1z.symm hz₁)))
  have hk₅ : ∀ c o, c ≠ z → c ≠ TO → c ≠ i1 → c ≠ i2 → s.heap.get? c = some o → h₅.get? c = some o := fun c o c1 c2 c3 c4 e =>
    hs₅.extBut _ _ c2 (hs₄.extBut _ _ c4 (hs₃.extBut _ _ c2 (hs₂.extBut _ _ c3 (hs₁.extBut _ _ c1 e))))
  have h1₅ : S1 h₅ (k1 + 1) := f1.stay D.TOi1.symm D.l1TO hs₅.extBut (f1.stay D.i12 D.l1i2 hs₄.extBut (f1.stay D.TOi1.symm D.l1TO hs₃.extBut h1₂))
  have h2₅ : S2 h₅ (k2 + 1) := f2.stay D.TOi2.symm D.l2TO hs₅.extBut h2₄
  have hzlt : z < h₅.objs.size := Heap.lt_size hz₅
  show wpAny _ _ (Builtin.SmallTypes.ownedTupleHandOut (.ref z) (.ref h₅.objs.size) >>= _) _ _ _
  refine wpAny_bind ?_
  unfold Builtin.SmallTypes.ownedTupleHandOut
  have hz₆ : IsZip (h₅.push { cls := .type "tuple", data := .seq #[x, y] }) z TI TO .ellipsis := Heap.get?_push_of_some _ hz₅
  refine wpAny_bind (wpAny_setField_rec hz₆ (by simp) fun h₇ hz₇ hs₇ => ?_)
  replace hz₇ : IsZip h₇ z TI TO (rawInt h₅.objs.size) := hz₇
  refine wpAny_setField_rec hz₇ (by simp) fun h₈ hz₈ hs₈ => ?_
  replace hz₈ : IsZip h₈ z TI TO (rawInt h₅.objs.size) := hz₈
  have up : ∀ c o, c ≠ z → h₅.get? c = some o → h₈.get? c = some o := fun c o c1 e => hs₈.extBut _ _ c1 (hs₇.extBut _ _ c1 (Heap.get?_push_of_some _ e))
  have hT₈ : IsPair h₈ h₅.objs.size x y := hs₈.extBut _ _ (Nat.ne_of_gt hzlt) (hs₇.extBut _ _ (Nat.ne_of_gt hzlt) (Heap.get?_push_size _ rfl))
  have hz8 : h₈.objs.size = h₅.objs.size + 1 := by rw [hs₈.1, hs₇.1, Heap.size_push]
  rw [hsz] at hz₈ hT₈ hz8
  refine wpAny_pure ⟨_, rfl, ?_⟩
  show Q (.ref h₅.objs.size) _
  rw [hsz]
  exact hQ h₈ hz₈ (up _ _ D.TOz hTO₅) (f1.keep h1₅ (fun o e => up _ o D.i1z e) (fun o e => up _ o D.l1z e)) (f2.keep h2₅ (fun o e => up _ o D.i2z e) (fun o e => up _ o D.l2z e)) hT₈ hz8 fun c o c1 c2 c3 c4 e => up c o c1 (hk₅ c o c1 c2 c3 c4 e)
theorem zipF_next_end {Q : Fin → Shared → Prop} (hh : A.handled = none) (D : ZipApart z TI TO i1 i2 l1 l2) (f1 : Feed i1 l1 xs S1) (f2 : Feed i2 l2 ys S2)
    (hz : IsZip s.heap z TI TO .none) (hTI : IsPair s.heap TI (.ref i1) (.ref i2)) (hTO : IsPair s.heap TO a b) (h1 : S1 s.heap k1) (h2 : S2 s.heap k2) (hend : xs[k1]? = none ∨ ys[k2]? = none)
    (hE : ∀ h' e, (∀ c o, c ≠ z → c ≠ TO → c ≠ i1 → c ≠ i2 → s.heap.get? c = some o → h'.get? c = some o) → (∃ o, h'.get? e = some o ∧ o.cls = .type "StopIteration") → E (.ref e) { s with heap := h' }) :
    wpAny (model prog w) A (Builtin.«zip.__next__» ⟨[.ref z], []⟩) Q E s := by
  show wpAny _ _ (field (.ref z) 2 >>= _) _ _ _
  refine wpAny_bind (wpAny_field hz rfl (x := .bool false) rfl ?_)
  show wpAny _ _ (field (.ref z) 3 >>= _) _ _ _
  refine wpAny_bind (wpAny_field hz rfl (x := .ref TI) rfl ?_)
  refine wpAny_bind (wpAny_seqItems hTI rfl ?_)
  show wpAny _ _ (Builtin.SmallTypes.ownedTupleIsFree (.ref z) >>= _) _ _ _
  refine wpAny_bind ?_
  unfold Builtin.SmallTypes.ownedTupleIsFree
  refine wpAny_bind (wpAny_field hz rfl (x := .none) rfl (wpAny_pure ?_))
  simp only [if_true]
  refine wpAny_bind (wpAny_rule ?_)
  refine wpAny_bind (wpAny_field hz rfl (x := .ref TO) rfl ?_)
  refine wpAny_bind (wpAny_setField_rec hz (by simp) fun h₁ hz₁ hs₁ => ?_)
  replace hz₁ : IsZip h₁ z TI TO .ellipsis := hz₁
  refine wpAny_bind ?_
  simp only [List.zipIdx_cons, List.zipIdx_nil, List.forIn_cons, List.forIn_nil]
  refine wpAny_bind (wpAny_bind (wpAny_onRaise ?_))
  show wpAny _ _ (Builtin.SmallTypes.nextOf (.ref i1) >>= _) _ _ _
  cases hx : xs[k1]? with
  | none =>
    refine wpAny_bind (f1.stop hh (f1.stay D.i1z D.l1z hs₁.extBut h1) hx fun h₂ e hs₂ he => ?_)
    obtain ⟨oe, hoe, hce⟩ := he
    have hz₂ : IsZip h₂ z TI TO .ellipsis := hs₂ _ _ D.i1z.symm hz₁
    have hez : e ≠ z := fun x => by subst x; rw [hz₂] at hoe; cases hoe; simp at hce
    refine wpAny_setField_rec hz₂ (by simp) fun h₃ _ hs₃ => hE h₃ e (fun c o c1 _ c3 _ x => hs₃.extBut _ _ c1 (hs₂ _ _ c3 (hs₁.extBut _ _ c1 x))) ⟨oe, hs₃.extBut _ _ hez hoe, hce⟩
  | some x =>
    have hy : ys[k2]? = none := by rcases hend with h | h; rw [hx] at h; cases h; exact h
    refine wpAny_bind (f1.item (f1.stay D.i1z D.l1z hs₁.extBut h1) hx fun h₂ h1₂ hs₂ => wpAny_pure ?_)
    have hTO₂ : IsPair h₂ TO a b := hs₂.extBut _ _ D.TOi1 (hs₁.extBut _ _ D.TOz hTO)
    refine wpAny_bind (wpAny_seqItems hTO₂ rfl ?_)
    refine wpAny_bind (wpAny_updateSeq_pair hTO₂ fun h₃ hTO₃ hs₃ => ?_)
    refine wpAny_bind (wpAny_letGo (wpAny_pure ?_))
    refine wpAny_bind (wpAny_bind (wpAny_onRaise ?_))
    show wpAny _ _ (Builtin.SmallTypes.nextOf (.ref i2) >>= _) _ _ _
    refine wpAny_bind (f2.stop hh (f2.stay D.TOi2.symm D.l2TO hs₃.extBut (f2.stay D.i12.symm D.l2i1 hs₂.extBut (f2.stay D.i2z D.l2z hs₁.extBut h2))) hy fun h₄ e hs₄ he => ?_)
    obtain ⟨oe, hoe, hce⟩ := he
    have hz₄ : IsZip h₄ z TI TO .ellipsis := hs₄ _ _ D.i2z.symm (hs₃.extBut _ _ D.TOz.symm (hs₂.extBut _ _ D.i1z.symm hz₁))
    have hez : e ≠ z := fun x => by subst x; rw [hz₄] at hoe; cases hoe; simp at hce
    refine wpAny_setField_rec hz₄ (by simp) fun h₅ _ hs₅ => hE h₅ e (fun c o c1 c2 c3 c4 x => hs₅.extBut _ _ c1 (hs₄ _ _ c4 (hs₃.extBut _ _ c2 (hs₂.extBut _ _ c3 (hs₁.extBut _ _ c1 x))))) ⟨oe, hs₅.extBut _ _ hez hoe, hce⟩
theorem pyNext_zipF_item {Q : Option Value → Shared → Prop} (D : ZipApart z TI TO i1 i2 l1 l2) (f1 : Feed i1 l1 xs S1) (f2 : Feed i2 l2 ys S2)
    (hz : IsZip s.heap z TI TO .none) (hTI : IsPair s.heap TI (.ref i1) (.ref i2)) (hTO : IsPair s.heap TO a b) (h1 : S1 s.heap k1) (h2 : S2 s.heap k2) (hx : xs[k1]? = some x) (hy : ys[k2]? = some y)
    (hQ : ∀ h', IsZip h' z TI TO (rawInt s.heap.objs.size) → IsPair h' TO x y → S1 h' (k1 + 1) → S2 h' (k2 + 1) → IsPair h' s.heap.objs.size x y → h'.objs.size = s.heap.objs.size + 1 →
      (∀ c o, c ≠ z → c ≠ TO → c ≠ i1 → c ≠ i2 → s.heap.get? c = some o → h'.get? c = some o) → Q (some (.ref s.heap.objs.size)) { s with heap := h' }) :
    wpAny (model prog w) A (pyNext (.ref z)) Q E s := by
  have hT : s.TypeIs (.ref z) "zip" := ⟨_, hz, rfl⟩
  unfold pyNext
  exact wpAny_bind (wpAny_attempt (wpAny_callSpecial?_slot (name := Str.ofString "__next__") hT F.slot_zip_next
    (wpAny_call_entry F.slot_zip_next hT F.entry_zip_next
      (zipF_next_item D f1 f2 hz hTI hTO h1 h2 hx hy fun h' a1 a2 a3 a4 a5 a6 a7 => wpAny_pure (hQ h' a1 a2 a3 a4 a5 a6 a7)) (F.args_zip_next_1 _))))
theorem pyNext_zipF_end {Q : Option Value → Shared → Prop} (hh : A.handled = none) (D : ZipApart z TI TO i1 i2 l1 l2) (f1 : Feed i1 l1 xs S1) (f2 : Feed i2 l2 ys S2)
    (hz : IsZip s.heap z TI TO .none) (hTI : IsPair s.heap TI (.ref i1) (.ref i2)) (hTO : IsPair s.heap TO a b) (h1 : S1 s.heap k1) (h2 : S2 s.heap k2) (hend : xs[k1]? = none ∨ ys[k2]? = none)
    (hQ : ∀ h', (∀ c o, c ≠ z → c ≠ TO → c ≠ i1 → c ≠ i2 → s.heap.get? c = some o → h'.get? c = some o) → Q none { s with heap := h' }) : wpAny (model prog w) A (pyNext (.ref z)) Q E s := by
  have hT : s.TypeIs (.ref z) "zip" := ⟨_, hz, rfl⟩
  unfold pyNext
  refine wpAny_bind (wpAny_attempt (wpAny_callSpecial?_slot (name := Str.ofString "__next__") hT F.slot_zip_next
    (wpAny_call_entry F.slot_zip_next hT F.entry_zip_next (zipF_next_end hh D f1 f2 hz hTI hTO h1 h2 hend fun h' e hk he => ?_) (F.args_zip_next_1 _))))
  obtain ⟨o, ho, hc⟩ := he
  refine wpAny_bind (wpAny_isInstance (T := "StopIteration") (b := true) ⟨o, ho, hc⟩ isSubtype_stop ?_)
  exact wpAny_pure (hQ _ hk)
end
/-- the heaps of zip(list, tuple) being made -/
def zq1 (h : Heap) (l1 : Addr) : Heap := h.push { cls := .type "list_iterator", data := .fields #[.ref l1, .int 0 0] }
def zq2 (h : Heap) (l1 l2 : Addr) : Heap := (zq1 h l1).push { cls := .type "tuple_iterator", data := .fields #[.ref l2, .int 0 0] }
def zq3 (h : Heap) (l1 l2 : Addr) : Heap := (zq2 h l1 l2).push { cls := .type "tuple", data := .seq #[.ref h.objs.size, .ref (zq1 h l1).objs.size] }
def zq4 (h : Heap) (l1 l2 : Addr) : Heap := (zq3 h l1 l2).push { cls := .type "tuple", data := .seq #[.none, .none] }
def zq5 (h : Heap) (l1 l2 : Addr) : Heap := (zq4 h l1 l2).push { cls := .type "zip", data := .fields #[.none, .bool false, .bool false, .ref (zq2 h l1 l2).objs.size, .ref (zq3 h l1 l2).objs.size] }
theorem meets_zipLT (l1 l2 : Addr) (xs ys : Array Value) :
    Meets (Builtin.«zip.__new__» ⟨[.type "zip", .ref l1, .ref l2], []⟩) (fun _ R s => s.heap.IsList l1 xs ∧ s.heap.IsTuple l2 ys ∧
      R (.ok (.ret (.ref (zq4 s.heap l1 l2).objs.size))) { s with heap := zq5 s.heap l1 l2 }) :=
  .of_wp fun prog w A R s h => by
    obtain ⟨hp, g, d, tk, os⟩ := s; obtain ⟨hl1, hl2, h⟩ := h
    have hsub := sub_zip
    have hL1 : Heap.IsList (Shared.heap ⟨hp, g, d, tk, os⟩) l1 xs := hl1
    have hL2 : Heap.IsTuple (Shared.heap ⟨hp.push { cls := .type "list_iterator", data := .fields #[.ref l1, .int 0 0] }, g, d, tk, os⟩) l2 ys := Heap.IsTuple.push hl2 _
    wp_walk using wpAny_pyIter_list hL1, wpAny_pyIter_tuple hL2
    exact ⟨_, rfl, h⟩
section
variable {prog : Program} {w : World} {A : Around} {E : Value → Shared → Prop} {s : Shared}
theorem call_zipLT {l1 l2 : Addr} {xs ys : Array Value} {Q : Value → Shared → Prop} (hl1 : s.heap.IsList l1 xs) (hl2 : s.heap.IsTuple l2 ys)
    (h : ∀ h', IsZip h' (s.heap.objs.size + 4) (s.heap.objs.size + 2) (s.heap.objs.size + 3) .none → IsPair h' (s.heap.objs.size + 2) (.ref s.heap.objs.size) (.ref (s.heap.objs.size + 1)) →
      IsPair h' (s.heap.objs.size + 3) .none .none → h'.IsListIter s.heap.objs.size l1 0 → h'.IsTupleIter (s.heap.objs.size + 1) l2 0 → h'.objs.size = s.heap.objs.size + 5 →
      (∀ c o, s.heap.get? c = some o → h'.get? c = some o) → Q (.ref (s.heap.objs.size + 4)) { s with heap := h' }) :
    wpAny (model prog w) A (call (.type "zip") [.ref l1, .ref l2]) Q E s := by
  refine callType_new F.called_zip (by decide) (F.typeCall_zip_2 _ _) (F.newCall_zip_2 _ _) (fun obj => F.args_object_init_3 obj _ _) F.entry_zip_new
    (meets_zipLT l1 l2 xs ys) ⟨hl1, hl2, ?_⟩
  have z1 : (zq1 s.heap l1).objs.size = s.heap.objs.size + 1 := Heap.size_push ..
  have z2 : (zq2 s.heap l1 l2).objs.size = s.heap.objs.size + 2 := by unfold zq2; rw [Heap.size_push, z1]
  have z3 : (zq3 s.heap l1 l2).objs.size = s.heap.objs.size + 3 := by unfold zq3; rw [Heap.size_push, z2]
  have z4 : (zq4 s.heap l1 l2).objs.size = s.heap.objs.size + 4 := by unfold zq4; rw [Heap.size_push, z3]
  have z5 : (zq5 s.heap l1 l2).objs.size = s.heap.objs.size + 5 := by unfold zq5; rw [Heap.size_push, z4]
  have g5 : (zq5 s.heap l1 l2).get? (zq4 s.heap l1 l2).objs.size = some _ := Heap.get?_push_size _ rfl
  have g4 : (zq5 s.heap l1 l2).get? (zq3 s.heap l1 l2).objs.size = some _ := Heap.get?_push_of_some _ (Heap.get?_push_size _ rfl)
  have g3 : (zq5 s.heap l1 l2).get? (zq2 s.heap l1 l2).objs.size = some _ := Heap.get?_push_of_some _ (Heap.get?_push_of_some _ (Heap.get?_push_size _ rfl))
  have g2 : (zq5 s.heap l1 l2).get? (zq1 s.heap l1).objs.size = some _ := Heap.get?_push_of_some _ (Heap.get?_push_of_some _ (Heap.get?_push_of_some _ (Heap.get?_push_size _ rfl)))
  have g1 : (zq5 s.heap l1 l2).get? s.heap.objs.size = some _ := Heap.get?_push_of_some _ (Heap.get?_push_of_some _ (Heap.get?_push_of_some _ (Heap.get?_push_of_some _ (Heap.get?_push_size _ rfl))))
  show _ ∧ _
  rw [z2, z3, z4] at g5
  rw [z1, z2] at g3
  rw [z3] at g4
  rw [z1] at g2
  rw [z4]
  exact ⟨⟨_, g5, rfl⟩, h _ g5 g3 g4 ⟨_, g1, rfl, rfl⟩ ⟨_, g2, rfl, rfl⟩ z5 fun c o x =>
    Heap.get?_push_of_some _ (Heap.get?_push_of_some _ (Heap.get?_push_of_some _ (Heap.get?_push_of_some _ (Heap.get?_push_of_some _ x))))⟩
end
end Z
namespace Z
open PySem PySem.Spec PyProof.Rows L2
/-- the list at a and the tuple at b as they stand at each turn, the items in new pairs -/
def ItzM (K : PySem.W.Frag) (a b : Addr) : It :=
  ⟨fun i H => ∃ (xs ys : List V) (x y : V), SqL K H a xs ∧ SqT K H b ys ∧ xs[i]? = some x ∧ ys[i]? = some y,
    fun i H v H' => ∃ T x y, v = .ref T ∧ H T = none ∧ H' = upd H T (.tup [x, y]) ∧ (∀ xs, SqL K H a xs → xs[i]? = some x) ∧ ∀ ys, SqT K H b ys → ys[i]? = some y,
    fun i H => ∃ xs ys : List V, SqL K H a xs ∧ SqT K H b ys ∧ (xs.length ≤ i ∨ ys.length ≤ i)⟩
theorem turn_zipM {P : Program} {w : World} {K : PySem.W.Frag} {elts : List Expr} {kk : Nat} {tpos : Pos} {a b z TI TO i1 i2 : Addr} (D : ZipApart z TI TO i1 i2 a b) :
    Turn P w K (.Tuple elts kk tpos) (ItzM K a b) [z, TI, TO, i1, i2] z (fun i h => IsZip h z TI TO .none ∧ IsPair h TI (.ref i1) (.ref i2) ∧ (∃ x y, IsPair h TO x y) ∧ h.IsListIter i1 a i ∧ h.IsTupleIter i2 b i) where
  mem := by simp
  obj := fun i h st c hc => by
    obtain ⟨hz, hTI, ⟨x, y, hTO⟩, ⟨o1, e1, _, d1⟩, ⟨o2, e2, _, d2⟩⟩ := st
    have e' : c = z ∨ c = TI ∨ c = TO ∨ c = i1 ∨ c = i2 := by simpa using hc
    rcases e' with q | q | q | q | q
    · rw [q]; exact ⟨_, hz, fun v q => nomatch q⟩
    · rw [q]; exact ⟨_, hTI, fun v q => nomatch q⟩
    · rw [q]; exact ⟨_, hTO, fun v q => nomatch q⟩
    · rw [q]; exact ⟨o1, e1, fun v q => by rw [d1] at q; cases q⟩
    · rw [q]; exact ⟨o2, e2, fun v q => by rw [d2] at q; cases q⟩
  keep := fun i h h' st k => by
    obtain ⟨hz, hTI, ⟨x, y, hTO⟩, h1, h2⟩ := st
    exact ⟨k z (by simp) _ hz, k TI (by simp) _ hTI, ⟨x, y, k TO (by simp) _ hTO⟩, h1.at fun o q => k i1 (by simp) o q, let ⟨o, e, r⟩ := h2; ⟨o, k i2 (by simp) o e, r⟩⟩
  item := by
    intro X hP hw hK hc i pins s σ H E I hf st hg
    subst hP hw hK
    obtain ⟨hz, hTI, ⟨x0, y0, hTO⟩, h1, h2⟩ := st
    obtain ⟨xs, ys, x, y, hqx, hqy, hx, hy⟩ := hg
    obtain ⟨its, rv, p, _⟩ := I.list hqx
    obtain ⟨its2, rv2, p2, _⟩ := I.tuple hqy
    obtain ⟨u, hu, ru⟩ := rv.get hx
    obtain ⟨u2, hu2, ru2⟩ := rv2.get hy
    have hzl : z < s.heap.objs.size := Heap.lt_size hz
    refine pyNext_zipF_item D (feed_list (xs := its.toArray) D.l1i1) (feed_tuple (xs := its2.toArray) D.l2i2) hz hTI hTO ⟨h1, p.isList⟩ ⟨h2, p2⟩ (x := u) (y := u2) (by simpa using hu) (by simpa using hu2) fun h' z' TO' h1' h2' hT hsz hk => ?_
    refine ⟨_, rfl, wpAny_letOwnedTupleGo_zip (s := { s with heap := h' }) z' fun h'' z'' sb => ?_⟩
    have hT2 : h''.get? s.heap.objs.size = some { cls := .type "tuple", data := .seq #[u, u2] } := (sb.2 _ (Nat.ne_of_gt hzl)).trans hT
    have new : ObjOk X.prog X.w (upd H s.heap.objs.size (.tup [x, y])) h'' s.heap.objs.size (.tup [x, y]) :=
      ⟨by show 2 ≤ sizeLine; decide, [u, u2], .cons ru (.cons ru2 .nil), ⟨_, hT2, rfl, _, rfl⟩⟩
    have I1 : Inv X pins σ (upd H s.heap.objs.size (.tup [x, y])) { s with heap := h'' } :=
      I.turnedNew (t' := s.toks) (ch := [z, TI, TO, i1, i2]) (fun c o hb q => (sb.2 c (fun q' => hb (by simp [q']))).trans (hk c o (fun q' => hb (by simp [q'])) (fun q' => hb (by simp [q'])) (fun q' => hb (by simp [q'])) (fun q' => hb (by simp [q'])) q)) hf (Nat.le_refl _) new
    refine ⟨.ref s.heap.objs.size, _, I1, rfl, ⟨_, x, y, rfl, I.hok.fresh (Nat.le_refl _), rfl, fun l hl => by rw [I.list_inj hl hqx]; exact hx, fun l hl => by rw [I.tuple_inj hl hqy]; exact hy⟩, ⟨z'', ?_, ⟨u, u2, ?_⟩, ?_, ?_⟩, fun c hcm => ?_⟩
    · exact (sb.2 _ D.TIz).trans (hk _ _ D.TIz D.TITO D.TIi1 D.TIi2 hTI)
    · exact (sb.2 _ D.TOz).trans TO'
    · exact h1'.1.at fun o q => (sb.2 _ D.i1z).trans q
    · obtain ⟨o, e, r⟩ := h2'.1
      exact ⟨o, (sb.2 _ D.i2z).trans e, r⟩
    · have hlt : c < s.heap.objs.size := by
        have e' : c = z ∨ c = TI ∨ c = TO ∨ c = i1 ∨ c = i2 := by simpa using hcm
        rcases e' with q | q | q | q | q
        · rw [q]; exact hzl
        · rw [q]; exact Heap.lt_size hTI
        · rw [q]; exact Heap.lt_size hTO
        · rw [q]; obtain ⟨_, e1, _⟩ := h1; exact Heap.lt_size e1
        · rw [q]; obtain ⟨_, e2, _⟩ := h2; exact Heap.lt_size e2
      rw [upd_ne (Nat.ne_of_lt hlt)]
      exact (hf c hcm).1
  done := by
    intro X hP hw hK hc i pins s σ H E I hf st hg
    subst hP hw hK
    obtain ⟨hz, hTI, ⟨x0, y0, hTO⟩, h1, h2⟩ := st
    obtain ⟨xs, ys, hqx, hqy, hend⟩ := hg
    obtain ⟨its, rv, p, _⟩ := I.list hqx
    obtain ⟨its2, rv2, p2, _⟩ := I.tuple hqy
    have l1 := rv.length
    have l2 := rv2.length
    have he : its.toArray[i]? = none ∨ its2.toArray[i]? = none := by
      rcases hend with q | q
      · exact .inl (by simp; omega)
      · exact .inr (by simp; omega)
    exact pyNext_zipF_end (I.ok.hd hc) D (feed_list (xs := its.toArray) D.l1i1) (feed_tuple (xs := its2.toArray) D.l2i2) hz hTI hTO ⟨h1, p.isList⟩ ⟨h2, p2⟩ he fun h' hk => ⟨rfl, I.turnedL (t' := s.toks) (ch := [z, TI, TO, i1, i2]) (fun c o hb q =>
      hk c o (fun q' => hb (by simp [q'])) (fun q' => hb (by simp [q'])) (fun q' => hb (by simp [q'])) (fun q' => hb (by simp [q'])) q) hf⟩
  self := fun A i s Q E st h => wpAny_pyIter_zip st.1 h
def iZipM (K : PySem.W.Frag) (ta : TA) : TI := fun σ H R => ta σ H fun vs H1 => ∃ a b xs ys, vs = [.ref a, .ref b] ∧ ((SqL K H1 a xs ∧ SqL K H1 b ys ∧ R (Itz K a b) H1) ∨ (SqL K H1 a xs ∧ SqT K H1 b ys ∧ R (ItzM K a b) H1))
theorem pi_zipM {X : Cx} {e e2 : Expr} {ta : TA} {p pos tpos : Pos} {elts : List Expr} {kk : Nat} (hg : Gl X "zip") (hm : X.mg "zip" = none) (ha : PA X [e, e2] ta)
    (hs : starEach [e, e2] X.env = (false, eval e X.env) :: starEach [e2] X.env := by rfl) (hpl : (backTo pos (starEach [e2] X.env)).any (·.1) = false := by rfl) :
    PI X (.Tuple elts kk tpos) (.Call (.Name "zip" p) [e, e2] [] pos) (iZipM X.K ta) := by
  refine ⟨fun pins s σ H R I h => ?_⟩
  refine Call_ (ld_blt I hg hm PyProof.Rows.boot_zip (PyProof.Rows.callWith_type1 (thn (ha.run pos pins s σ H _ I h) fun us s1 ⟨vs, H1, I1, r1, q1⟩ => ?_) hs hpl))
  obtain ⟨a, b, xs, ys, ex, q1⟩ := q1
  subst ex
  cases r1 with
  | cons r rr =>
    cases rr with
    | cons r' rr =>
      cases rr
      cases r
      cases r'
      have fresh5 : ∀ c, c ∈ [s1.heap.objs.size + 4, s1.heap.objs.size + 2, s1.heap.objs.size + 3, s1.heap.objs.size, s1.heap.objs.size + 1] → FpOk X pins H1 c := fun c hcm => by
        have e' : c = s1.heap.objs.size + 4 ∨ c = s1.heap.objs.size + 2 ∨ c = s1.heap.objs.size + 3 ∨ c = s1.heap.objs.size ∨ c = s1.heap.objs.size + 1 := by simpa using hcm
        have hle : s1.heap.objs.size ≤ c := by omega
        exact I1.fpOk hle (I1.hok.fresh hle)
      rcases q1 with ⟨hqx, hqy, q⟩ | ⟨hqx, hqy, q⟩
      · obtain ⟨its, rv, p1, _⟩ := I1.list hqx
        obtain ⟨its2, rv2, p2, _⟩ := I1.list hqy
        refine call_zip_2 p1.isList p2.isList fun h' hz hTI hTO h1 h2 hsz hk => wpAny_pyIter_zip hz ?_
        have I2 : Inv X pins σ H1 { s1 with heap := h' } := I1.kept (t' := s1.toks) hk
        exact ⟨s1.heap.objs.size + 4, [s1.heap.objs.size + 4, s1.heap.objs.size + 2, s1.heap.objs.size + 3, s1.heap.objs.size, s1.heap.objs.size + 1], _, _, H1, rfl, I2, turn_zip (PySem.W.ktu_apart s1.heap.objs.size a b p1.lt p2.lt), ⟨hz, hTI, ⟨_, _, hTO⟩, h1, h2⟩, fresh5, q⟩
      · obtain ⟨its, rv, p1, _⟩ := I1.list hqx
        obtain ⟨its2, rv2, p2, _⟩ := I1.tuple hqy
        obtain ⟨o2, ho2, _⟩ := id p2
        refine call_zipLT p1.isList (show s1.heap.IsTuple b its2.toArray from p2) fun h' hz hTI hTO h1 h2 hsz hk => wpAny_pyIter_zip hz ?_
        have I2 : Inv X pins σ H1 { s1 with heap := h' } := I1.kept (t' := s1.toks) hk
        exact ⟨s1.heap.objs.size + 4, [s1.heap.objs.size + 4, s1.heap.objs.size + 2, s1.heap.objs.size + 3, s1.heap.objs.size, s1.heap.objs.size + 1], _, _, H1, rfl, I2, turn_zipM (PySem.W.ktu_apart s1.heap.objs.size a b p1.lt (Heap.lt_size ho2)), ⟨hz, hTI, ⟨_, _, hTO⟩, h1, h2⟩, fresh5, q⟩
section
variable {G : Gx} {X : Cx} {W : WX} {a b : Expr} {fr : Fz (List Sv)} {p pos : Pos}
/-- zip of a list, or a tree of one, and a list or a tree of a tuple -/
def zipMO (as : List Sv) (μ : Mu) : Rz Wk := match as with
  | [u, .d (.tup es)] => match lstC u μ with
    | some k => match toDs k.items with
      | some ds => some (.ok ⟨zipI ds es, k.chk⟩, μ)
      | none => none
    | none => none
  | [u, v] => match lstC u μ, lstC v μ with
    | some k, some m => match toDs k.items, toDs m.items with
      | some ds, some es => some (.ok ⟨zipI ds es, fun μ => k.chk μ ∧ m.chk μ⟩, μ)
      | _, _ => none
    | _, _ => none
  | _ => none
def fZipM (fr : Fz (List Sv)) : Fz Wk := fun δ μ => (fr δ μ).bind fun as μ => zipMO as μ
theorem zi_zipM (hK : G.K = X.K) {elts : List Expr} {kk : Nat} {tpos : Pos} (hg : Gl X "zip") (hm : X.mg "zip" = none) (ha : PA X [a, b] (zA G W fr)) (hs : starEach [a, b] X.env = (false, eval a X.env) :: starEach [b] X.env := by rfl) (hpl : (backTo pos (starEach [b] X.env)).any (·.1) = false := by rfl) :
    PI X (.Tuple elts kk tpos) (.Call (.Name "zip" p) [a, b] [] pos) (zW G W (fZipM fr)) := piImp (pi_zipM hg hm ha hs hpl) fun σ H R q => by
  obtain ⟨F, ρ, δ, μ, rr, w, s, e, p⟩ := q
  refine zstep w s e p fun sa μ1 x F1 ρ1 H1 g1 w1 s1 rx e1 p1 => ?_
  unfold zipMO at e1
  split at e1
  · rename_i u es
    split at e1
    · rename_i k hk
      split at e1
      · rename_i ds hd
        cases e1
        cases rx with
        | cons r t => cases t with
          | cons r' t =>
            cases t
            cases r' with
            | d r' =>
            obtain ⟨l, vs, rfl, h1, h2, hc, hh⟩ := lstC_at w1 r hk
            cases r' with
            | tup q1 q2 =>
            rename_i l' vs'
            refine ⟨l, l', vs, vs', rfl, .inr ⟨by rw [← hK]; exact h1, by rw [← hK]; exact w1.ex.t q1, ?_⟩⟩
            rw [← hK]
            refine p1.ok w1 (fun F' ρ' μ' H' g w' c i => ?_)
            obtain ⟨ws, r1, r2⟩ := hh F' ρ' μ' H' g w' c
            have r3 := w'.ex.t (g.f.t q1)
            have r4 := q2.mono g.f
            rw [of_toDs hd] at r2
            have hl := r2.len
            have hl' := r4.len
            rw [List.length_map] at hl
            refine ⟨fun hi => ⟨ws, vs', r1, r3, by rw [zipI_len] at hi; rw [hl, hl']; omega⟩, fun y hy => ?_⟩
            rw [zipI_get] at hy
            cases hd1 : ds[i]? with
            | none => rw [hd1] at hy; cases hy
            | some d =>
              cases hd2 : es[i]? with
              | none => rw [hd1, hd2] at hy; cases hy
              | some d2 =>
                rw [hd1, hd2] at hy
                have hy' : Sv.d (.tup [d, d2]) = y := Option.some.inj hy
                subst hy'
                obtain ⟨u, hu, ru⟩ := RsL.get r2 (show (ds.map Sv.d)[i]? = some (.d d) by rw [List.getElem?_map, hd1]; rfl)
                obtain ⟨u2, hu2, ru2⟩ := RsL.get (RsL.ofD (ρ := ρ') r4) (show (es.map Sv.d)[i]? = some (.d d2) by rw [List.getElem?_map, hd2]; rfl)
                refine ⟨⟨ws, vs', u, u2, r1, r3, hu, hu2⟩, fun x H'' ⟨T, z, z2, ev, hT, eH, hx, hx2⟩ => ?_⟩
                have e1 := hx ws r1
                rw [hu] at e1; cases e1
                have e2 := hx2 vs' r3
                rw [hu2] at e2; cases e2
                subst ev eH
                obtain ⟨w2, g2⟩ := w'.newD hT (.tup [u, u2])
                refine ⟨_, ρ', g2, w2, .d (.tup (SqT.of upd_same) ?_)⟩
                cases ru with
                | d ru => cases ru2 with
                  | d ru2 => exact .cons (ru.mono g2.f) (.cons (ru2.mono g2.f) .nil)
      · cases e1
    · cases e1
  · split at e1
    · rename_i u v _ k m hk hm'
      split at e1
      · rename_i ds es hd he
        cases e1
        cases rx with
        | cons r t => cases t with
          | cons r' t =>
            cases t
            obtain ⟨l, vs, rfl, h1, h2, hc, hh⟩ := lstC_at w1 r hk
            obtain ⟨l', vs', rfl, h1', h2', hc', hh'⟩ := lstC_at w1 r' hm'
            refine ⟨l, l', vs, vs', rfl, .inl ⟨by rw [← hK]; exact h1, by rw [← hK]; exact h1', ?_⟩⟩
            rw [← hK]
            refine p1.ok w1 (fun F' ρ' μ' H' g w' c i => ?_)
            obtain ⟨ws, r1, r2⟩ := hh F' ρ' μ' H' g w' c.1
            obtain ⟨ws', r3, r4⟩ := hh' F' ρ' μ' H' g w' c.2
            rw [of_toDs hd] at r2
            rw [of_toDs he] at r4
            have hl := r2.len
            have hl' := r4.len
            rw [List.length_map] at hl hl'
            refine ⟨fun hi => ⟨ws, ws', r1, r3, by rw [zipI_len] at hi; rw [hl, hl']; omega⟩, fun y hy => ?_⟩
            rw [zipI_get] at hy
            cases hd1 : ds[i]? with
            | none => rw [hd1] at hy; cases hy
            | some d =>
              cases hd2 : es[i]? with
              | none => rw [hd1, hd2] at hy; cases hy
              | some d2 =>
                rw [hd1, hd2] at hy
                have hy' : Sv.d (.tup [d, d2]) = y := Option.some.inj hy
                subst hy'
                obtain ⟨u, hu, ru⟩ := RsL.get r2 (show (ds.map Sv.d)[i]? = some (.d d) by rw [List.getElem?_map, hd1]; rfl)
                obtain ⟨u2, hu2, ru2⟩ := RsL.get r4 (show (es.map Sv.d)[i]? = some (.d d2) by rw [List.getElem?_map, hd2]; rfl)
                refine ⟨⟨ws, ws', u, u2, r1, r3, hu, hu2⟩, fun x H'' ⟨T, z, z2, ev, hT, eH, hx, hx2⟩ => ?_⟩
                have e1 := hx ws r1
                rw [hu] at e1; cases e1
                have e2 := hx2 ws' r3
                rw [hu2] at e2; cases e2
                subst ev eH
                obtain ⟨w2, g2⟩ := w'.newD hT (.tup [u, u2])
                refine ⟨_, ρ', g2, w2, .d (.tup (SqT.of upd_same) ?_)⟩
                cases ru with
                | d ru => cases ru2 with
                  | d ru2 => exact .cons (ru.mono g2.f) (.cons (ru2.mono g2.f) .nil)
      · cases e1
    · cases e1
  · cases e1
end
section
variable {P : Except Exn Wk → Mu → Prop} {δ : Dl} {μ : Mu}
@[simp] theorem Ev_zipM (fr : Fz (List Sv)) : Ev (fZipM fr δ μ) P = Ev (fr δ μ) (fun e μ => okc e (fun a => Ev (zipMO a μ) P) (fun x => P (.error x) μ)) := by
  show Ev (Rz.bind _ (fun a μ => zipMO a μ)) _ = _
  rw [Ev_bind]
@[simp] theorem zipMO_lt (l m : List D) : zipMO [.d (.lst l), .d (.tup m)] μ = some (.ok ⟨zipI l m, fun _ => True⟩, μ) := by
  show (match toDs (l.map Sv.d) with
      | some ds => some (Except.ok (⟨zipI ds m, fun _ => True⟩ : Wk), μ)
      | none => none) = _
  rw [toDs_map]
@[simp] theorem zipMO_ll (l m : List D) : zipMO [.d (.lst l), .d (.lst m)] μ = some (.ok ⟨zipI l m, fun _ => True⟩, μ) := by
  show (match toDs (l.map Sv.d), toDs (m.map Sv.d) with
      | some ds, some es => some (Except.ok (⟨zipI ds es, fun _ => True ∧ True⟩ : Wk), μ)
      | _, _ => none) = _
  rw [toDs_map, toDs_map]; simp
theorem zipMO_cl {n : Nat} {xs m : List D} (h : μ[n]? = some (.lst (xs.map Sv.d))) : zipMO [.c n, .d (.lst m)] μ = some (.ok ⟨zipI xs m, fun μ => μ[n]? = some (.lst (xs.map Sv.d))⟩, μ) := by
  simp [zipMO, lstC, h, toDs_map]
end
end Z
namespace Z
open PySem PySem.Spec PyProof.Rows L2
section
variable {G : Gx} {X : Cx} {W : WX} {F : Hp} {ρ : List Addr} {μ : Mu} {H : Hp} {a b : Expr} {fa fb : Fz Sv} {p2 pos : Pos}
/-! ## tuples: +, any slice, [::-1]; list * int -/
def oAddA : Op2 := fun a b μ => match a, b with
  | .d (.tup a), .d (.tup b) => if a.length + b.length ≤ 16777216 then okz (.tup (a ++ b)) μ else none
  | a, b => oAdd a b μ
theorem so_addA (hK : G.K = X.K) : SOp2 G W (fun x y H Q => rAddZ X.K x y H Q ∨ rCatA X.K x y H Q) oAddA := by
  intro F ρ μ H σ x y a b rr Q w rx ry h p
  unfold oAddA at h
  split at h
  · split at h
    · rename_i hl
      cases h
      cases rx with
      | d rx =>
        cases ry with
        | d ry =>
          have rx0 := rx
          have ry0 := ry
          cases rx with
          | tup h1 h2 =>
            cases ry with
            | tup h3 h4 =>
              have t1 := w.ex.t h1
              have t2 := w.ex.t h3
              rw [hK] at t1 t2
              have n1 := h2.len
              have n2 := h4.len
              refine .inr ⟨_, _, _, _, rfl, rfl, t1, t2, by rw [n1, n2, szl]; exact hl, fun z => ?_, fun _ z => ?_, fun _ _ q hq => ?_⟩
              · subst z
                cases h2
                rw [List.nil_append] at p
                exact p.ok w (.d ry0)
              · subst z
                cases h4
                rw [List.append_nil] at p
                exact p.ok w (.d rx0)
              · obtain ⟨w2, g2⟩ := w.newD hq (.tup _)
                exact p _ _ _ _ g2 w2 (.d (.tup (SqT.of upd_same) (RpL.mono g2.f (by
                  have := (RsL.ofD (ρ := ρ) h2).app (RsL.ofD h4)
                  rw [← List.map_append] at this
                  exact RsL.toD this))))
    · cases h
  · exact .inl (so_add hK F ρ _ H σ x y _ _ rr Q w rx ry h p)
theorem op_addA : OpR X (binaryOp .Add) (fun x y H Q => rAddZ X.K x y H Q ∨ rCatA X.K x y H Q) := orR op_addZ op_catA
def oSlA (x : Sv) (lo hi : Option Int) (μ : Mu) : Rz Sv := match x with
  | .d (.tup l) => okz (.tup (cutL l lo hi)) μ
  | x => oSl x lo hi μ
def fSlA (fa : Fz Sv) (fl fh : Fz (Option Int)) : Fz Sv := fun δ μ => (fa δ μ).bind fun a μ => (fl δ μ).bind fun lo μ => (fh δ μ).bind fun hi μ => oSlA a lo hi μ
theorem cutL_whole {α : Type} {l : List α} {lo hi : Option Int} (h : HT.sIx l.length 0 lo = 0 ∧ HT.sIx l.length l.length hi = l.length) : cutL l lo hi = l := by
  unfold cutL
  rw [h.1, h.2]; simp
theorem z_slA (hK : G.K = X.K) {lo hi : Option Expr} {fl fh : Fz (Option Int)} (ha : PE X a (zE G W fa)) (hl : PO X lo (zO G W fl)) (hh : PO X hi (zO G W fh)) : PE X (.Subscript a (.Slice lo hi none p2) pos) (zE G W (fSlA fa fl fh)) := peImp (pe_slice (sl_Z.or sl_tupA) ha hl hh) fun σ H Q q => by
  obtain ⟨F, ρ, δ, μ, rr, w, s, e, p⟩ := q
  refine zstep w s e p fun sa μ1 x F1 ρ1 H1 g1 w1 s1 rx e1 p1 => ?_
  refine zstep w1 s1 e1 p1 fun lov μ2 lo' F2 ρ2 H2 g2 w2 s2 rlo e2 p2 => ?_
  refine zstep w2 s2 e2 p2 fun hiv μ3 hi' F3 ρ3 H3 g3 w3 s3 rhi e3 p3 => ?_
  subst rlo rhi
  have rx3 := rx.mono (g2.trans g3)
  unfold oSlA at e3
  split at e3
  · cases e3
    cases rx3 with
    | d rx3 =>
      have rx0 := rx3
      cases rx3 with
      | tup h1 h2 =>
        have t1 := w3.ex.t h1
        rw [hK] at t1
        refine .inr ⟨_, _, rfl, t1, fun z => ?_, fun z q hq => ?_⟩
        · rw [h2.len] at z
          rw [cutL_whole z] at p3
          exact p3.ok w3 (.d rx0)
        · obtain ⟨w4, g4⟩ := w3.newD hq (.tup (cutV _ lo' hi'))
          have rr := (RsL.ofD (ρ := ρ3) h2).cut lo' hi'
          rw [cutL_map] at rr
          exact p3 _ _ _ _ g4 w4 (.d (.tup (SqT.of upd_same) ((RsL.toD rr).mono g4.f)))
  · exact .inl (oSl_at hK w3 rx3 e3 p3)
/-- a list * an int -/
def oRep : Op2 := fun a b μ => match a, b with
  | .c n, .d (.int k) => match μ[n]? with
    | some (.lst xs) => match toDs xs with
      | some ds => if -(2 ^ 63) ≤ k ∧ k < 2 ^ 63 ∧ xs.length * k.toNat ≤ 16777216 then okz (.lst (List.replicate k.toNat ds).flatten) μ else none
      | none => none
    | _ => none
  | _, _ => none
theorem rpl_rep {vs : List V} {ds : List D} (h : RpL G F vs ds) : ∀ k : Nat, RpL G F (List.replicate k vs).flatten (List.replicate k ds).flatten
  | 0 => .nil
  | k + 1 => by
    rw [List.replicate_succ, List.replicate_succ, List.flatten_cons, List.flatten_cons]
    have := (RsL.ofD (ρ := []) h).app (RsL.ofD (rpl_rep h k))
    rw [← List.map_append] at this
    exact RsL.toD this
theorem so_rep : SOp2 G W rRep oRep := by
  intro F ρ μ H σ x y a b rr Q w rx ry h p
  unfold oRep at h
  split at h
  · rename_i n kk
    split at h
    · rename_i xs hx
      split at h
      · rename_i ds hd
        split at h
        · rename_i hl
          cases h
          cases rx with
          | c hr =>
            cases ry with
            | d ry => cases ry with
              | int =>
                obtain ⟨h0, ws, h1, h2⟩ := w.cell _ _ _ hr hx
                have h3 := h2
                rw [of_toDs hd] at h3
                refine ⟨_, _, _, rfl, rfl, h1, hl.1, hl.2.1, by rw [h2.len, szl]; exact hl.2.2, fun q hq => ?_⟩
                obtain ⟨w2, g2⟩ := w.newD hq (.lst (List.replicate kk.toNat ws).flatten)
                exact p _ _ _ _ g2 w2 (.d (.lst (SqL.of upd_same) ((rpl_rep (RsL.toD h3) _).mono g2.f)))
        · cases h
      · cases h
    · cases h
  · cases h
end
section
variable {prog : Program} {w : World} {A : Around} {E : Value → Shared → Prop} {s : Shared}
theorem sliceApplied_rev {sl : Addr} {vl vu vs : Value} {n : Nat} {Q : Int × Int × Nat → Shared → Prop} (hs : s.heap.IsSliceOf sl vl vu vs) (pl : IsPart vl none) (pu : IsPart vu none) (ps : IsPart vs (some (-1)))
    (h : Q ((n : Int) - 1, -1, n) s) : wpAny (model prog w) A (Builtin.Slice.sliceApplied (.ref sl) (pure (n : Int))) Q E s := by
  obtain ⟨os, hos, hcs, hds⟩ := id hs
  unfold Builtin.Slice.sliceApplied Builtin.Slice.sliceFields
  refine wpAny_bind (wpAny_bind (wpAny_field hos hds (x := vl) rfl (wpAny_bind (wpAny_field hos hds (x := vu) rfl (wpAny_bind (wpAny_field hos hds (x := vs) rfl (wpAny_pure ?_)))))))
  refine wpAny_bind (HT.slicePart_ ps ?_)
  show wpAny _ _ (if ((-1 : Int) == 0) = true then _ else _) _ _ s
  rw [if_neg (by decide)]
  refine wpAny_bind (HT.slicePart_ pl (wpAny_bind (HT.slicePart_ pu (wpAny_bind (wpAny_pure ?_)))))
  have e : Builtin.Slice.sliceAdjust none none (-1) (n : Int) = ((n : Int) - 1, -1) := by
    unfold Builtin.Slice.sliceAdjust
    simp
  show wpAny _ _ (match Builtin.Slice.sliceAdjust none none (-1) (n : Int) with | (lo, hi) => pure (lo, (-1 : Int), Builtin.Slice.slicePlaces lo hi (-1))) _ _ s
  rw [e]
  have e2 : Builtin.Slice.slicePlaces ((n : Int) - 1) (-1) (-1) = n := by
    unfold Builtin.Slice.slicePlaces
    simp
    omega
  show wpAny _ _ (pure ((n : Int) - 1, (-1 : Int), Builtin.Slice.slicePlaces ((n : Int) - 1) (-1) (-1))) _ _ s
  rw [e2]
  exact wpAny_pure h
theorem pick_rev (xs : List Value) : ((List.range xs.length).filterMap fun (m : Nat) => xs.toArray[(((xs.length : Int) - 1) + (m : Int) * (-1)).toNat]?) = xs.reverse := by
  have e1 : ∀ m ∈ List.range xs.length, (fun (m : Nat) => xs.toArray[(((xs.length : Int) - 1) + (m : Int) * (-1)).toNat]?) m = some (xs.reverse.getD m .none) := by
    intro m hm
    have hm' := List.mem_range.mp hm
    have e : (((xs.length : Int) - 1) + (m : Int) * (-1)).toNat = xs.length - 1 - m := by omega
    simp only [e]
    rw [List.getD_eq_getElem?_getD, List.getElem?_reverse hm']
    simp only [List.getElem?_toArray]
    rw [List.getElem?_eq_getElem (by omega)]; rfl
  rw [fm_map e1]
  apply List.ext_getElem?
  intro j
  by_cases hj : j < xs.length
  · rw [List.getElem?_map, List.getElem?_range hj]
    simp only [Option.map_some]
    rw [List.getD_eq_getElem?_getD, List.getElem?_eq_getElem (by simpa using hj)]
    simp
  · rw [List.getElem?_eq_none (by simp; omega), List.getElem?_eq_none (by simp; omega)]
theorem getItem_tuple_rev {t sl : Addr} {items : List Value} {vl vu vs : Value} {Q : Value → Shared → Prop} (ht : IsTup s.heap t items.toArray) (hs : s.heap.IsSliceOf sl vl vu vs) (pl : IsPart vl none) (pu : IsPart vu none) (ps : IsPart vs (some (-1)))
    (h : Q (.ref s.heap.objs.size) { s with heap := s.heap.push { cls := .type "tuple", data := .seq items.reverse.toArray } })
    (hsz : items.length ≤ sizeLine) : wpAny (model prog w) A (getItem (.ref t) (.ref sl)) Q E s := by
  have htake : sizeOk (.seq items.reverse.toArray) := by
    show items.reverse.toArray.size ≤ sizeLine
    simpa using hsz
  obtain ⟨os, hos, hcs, hds⟩ := id hs
  have hTs : s.TypeIs (.ref sl) "slice" := ⟨os, hos, hcs⟩
  unfold getItem
  try with_reducible refine wpAny_holding ?_
  first | refine wpAny_bind (wpAny_pure ?_) | skip
  refine wpAny_bind (wpAny_sequenceKey ht.typeIs (by decide) ?_)
  refine wpAny_bind (wpAny_callSpecial?_slot (name := Str.ofString "__getitem__") ht.typeIs PyProof.Rows.slot_tuple_getitem
    (wpAny_call_entry PyProof.Rows.slot_tuple_getitem ht.typeIs entry_tuple_getitem ?_ (args_tuple_getitem _ _)))
  show wpAny _ _ (Builtin.Tuple.tupleItemsOf (.ref t) >>= _) _ _ s
  refine wpAny_bind (tupleItemsOf_ ht ?_)
  refine wpAny_bind (wpAny_typeOf hTs ?_)
  rw [if_pos (by decide)]
  refine wpAny_bind (sliceApplied_rev hs pl pu ps ?_)
  have hno : ¬ ((((items.toArray.size : Int) - 1) == 0 && (-1 : Int) == 1 && items.toArray.size == items.toArray.size) = true) := by
    simp
  show wpAny _ _ (if ((((items.toArray.size : Int) - 1) == 0 && (-1 : Int) == 1 && items.toArray.size == items.toArray.size)) = true then _ else _) _ _ s
  rw [if_neg hno]
  simp only [List.size_toArray]
  rw [pick_rev]
  first
    | exact wpAny_bind (m := Builtin.Tuple.tupleExact _) (wpAny_newObj_type (wpAny_pure ⟨_, rfl, wpAny_pure h⟩) htake)
    | exact wpAny_bind (m := Builtin.Tuple.tupleExact _) (wpAny_newObj_type (wpAny_bind (wpAny_pure (wpAny_pure ⟨_, rfl, wpAny_pure h⟩))) htake)
    | exact wpAny_bind (wpAny_bind (m := Builtin.Tuple.tupleExact _) (wpAny_newObj_type (wpAny_pure (wpAny_pure ⟨_, rfl, wpAny_pure h⟩)) htake))
    | exact wpAny_bind (wpAny_bind (m := Builtin.Tuple.tupleExact _) (wpAny_newObj_type (wpAny_pure ⟨_, rfl, wpAny_pure h⟩) htake))
end
section
variable {G : Gx} {X : Cx} {W : WX} {F : Hp} {ρ : List Addr} {μ : Mu} {H : Hp} {e : Expr} {fa fb : Fz Sv} {p2 pos : Pos}
def tRevT (K : PySem.W.Frag) (te : TE) : TE := fun σ H Q => te σ H fun x H1 => ∃ a xs, x = .ref a ∧ SqT K H1 a xs ∧ ∀ q, H1 q = none → Q (.ref q) (upd H1 q (.tup xs.reverse))
theorem pe_revT {te : TE} {k : Nat} {p1 p3 : Pos} (he : PE X e te) : PE X (.Subscript e (.Slice none none (some (.UnaryOp .USub (.Constant (.int 1) k p1) p2)) p3) pos) (tRevT X.K te) := by
  refine ⟨fun pins s σ H Q I h => ?_⟩
  refine Subscript_ (thn (he.run pins s σ H _ I h) fun v s1 ⟨x, H1, I1, r1, q1⟩ => ?_)
  obtain ⟨a, xs, ex, hx, q⟩ := q1
  subst ex
  cases r1
  have hst : PO X (some (.UnaryOp .USub (.Constant (.int 1) k p1) p2)) (tPart (tUn (rU fun i => .int (-i)) (tC (.int 1)))) := po_some (pe_un un_neg pe_int)
  refine wpAny_Slice (thn (po_none.run pins s1 σ H1 (fun o H2 => o = none ∧ H2 = H1) I1 ⟨rfl, rfl⟩) fun vl s2 ⟨l, H2, I2, pl, el, e2⟩ => ?_)
  subst el e2
  refine thn (po_none.run pins s2 σ H2 (fun o H3 => o = none ∧ H3 = H2) I2 ⟨rfl, rfl⟩) fun vu s3 ⟨u, H3, I3, pu, eu, e3⟩ => ?_
  subst eu e3
  refine thn (hst.run pins s3 σ H3 (fun o H4 => o = some (-1) ∧ H4 = H3) I3 ⟨1, rfl, -1, rfl, rfl, rfl⟩) fun vs s4 ⟨o, H4, I4, ps, eo, e4⟩ => ?_
  subst eo e4
  have I5 : Inv X pins σ H4 { s4 with heap := s4.heap.push { cls := .type "slice", data := .fields #[vl, vu, vs] } } := I4.kept (t' := s4.toks) fun b ob q => Heap.get?_push_of_some _ q
  obtain ⟨its, r, ht, hz⟩ := I5.tuple hx
  have hlen := r.length
  show wpAny (model X.prog X.w) X.A (subscriptTail e (.Slice none none (some (.UnaryOp .USub (.Constant (.int 1) k p1) p2)) p3) (.ref a) (.ref s4.heap.objs.size)) (EP X pins σ Q) X.xe { s4 with heap := s4.heap.push { cls := .type "slice", data := .fields #[vl, vu, vs] } }
  refine tail_any (ops := [.ref a, .ref s4.heap.objs.size]) ht.typeIs PyProof.Rows.slot_tuple_getitem.lookup ?_ (by with_unfolding_all rfl)
  refine getItem_tuple_rev ht (Heap.IsSliceOf.new _ vl vu vs) pl pu ps ?_ (by omega)
  refine ⟨.ref _, _, I5.laid (t' := s4.toks) (o := .tup xs.reverse) (fun b ob q => Heap.get?_push_of_some _ q) (Nat.le_refl _) ?_, rfl, q _ (I5.hok.fresh (Nat.le_refl _))⟩
  exact ⟨by rw [List.length_reverse]; exact hz, _, r.reverse, IsTup.new _ _⟩
def fRevA (fa : Fz Sv) : Fz Sv := fun δ μ => (fa δ μ).bind fun a μ => match a with
  | .d (.tup l) => okz (.tup l.reverse) μ
  | a => revO a μ
theorem z_revA (hK : G.K = X.K) {k : Nat} {p1 p3 : Pos} (ha : PE X e (zE G W fa)) : PE X (.Subscript e (.Slice none none (some (.UnaryOp .USub (.Constant (.int 1) k p1) p2)) p3) pos) (zE G W (fRevA fa)) :=
  peImp (peOr (pe_revT ha) (z_rev hK ha)) fun σ H Q q => by
  obtain ⟨F, ρ, δ, μ, rr, w, s, e, p⟩ := q
  unfold fRevA at e
  cases h : fa δ μ with
  | none => rw [h] at e; cases e
  | some q =>
    obtain ⟨v, μ1⟩ := q
    rw [h] at e
    cases v with
    | error x => cases e; exact .inl ⟨F, ρ, δ, μ, _, w, s, h, p⟩
    | ok v =>
      rw [Rz.bind_ok] at e
      split at e
      · rename_i l
        cases e
        refine .inl ⟨F, ρ, δ, μ, _, w, s, h, fun x F1 ρ1 H1 g1 w1 r1 => ?_⟩
        cases r1 with
        | d r1 =>
          cases r1 with
          | tup h1 h2 =>
            have t1 := w1.ex.t h1
            rw [hK] at t1
            refine ⟨_, _, rfl, t1, fun q hq => ?_⟩
            obtain ⟨w2, g2⟩ := w1.newD hq (.tup (List.reverse _))
            have h4 := (RsL.ofD (ρ := ρ1) h2).rev
            rw [← List.map_reverse] at h4
            exact p _ _ _ _ (g1.trans g2) w2 (.d (.tup (SqT.of upd_same) ((RsL.toD h4).mono g2.f)))
      · refine .inr ⟨F, ρ, δ, μ, _, w, s, ?_, p⟩
        show Rz.bind (fa δ μ) (fun a μ => revO a μ) = _
        rw [h]; exact e
end
section
variable {P : Except Exn Sv → Mu → Prop} {δ : Dl} {μ : Mu}
@[simp] theorem Ev_RevA (fa : Fz Sv) : Ev (fRevA fa δ μ) P = Ev (fa δ μ) (fun e μ1 => okc e (fun a => Ev (match a with
  | .d (.tup l) => okz (.tup l.reverse) μ1
  | a => revO a μ1) P) (fun x => P (.error x) μ1)) := by
  show Ev (Rz.bind _ _) _ = _
  rw [Ev_bind]
@[simp] theorem Ev_slA (fa : Fz Sv) (fl fh : Fz (Option Int)) : Ev (fSlA fa fl fh δ μ) P = Ev (fa δ μ) (fun e μ1 => okc e (fun a => Ev (fl δ μ1) (fun e μ2 => okc e (fun lo => Ev (fh δ μ2) (fun e μ3 => okc e (fun hi => Ev (oSlA a lo hi μ3) P) (fun x => P (.error x) μ3))) (fun x => P (.error x) μ2))) (fun x => P (.error x) μ1)) := by
  show Ev (Rz.bind _ fun a μ => Rz.bind _ fun lo μ => Rz.bind _ _) _ = _
  rw [Ev_bind]; refine Ev_ext fun e μ => ?_; cases e <;> simp only [okc_ok, okc_err]
  rw [Ev_bind]; refine Ev_ext fun e μ => ?_; cases e <;> simp only [okc_ok, okc_err]
  rw [Ev_bind]
@[simp] theorem oSlA_t (l : List D) (lo hi : Option Int) : oSlA (.d (.tup l)) lo hi μ = okz (.tup (cutL l lo hi)) μ := rfl
@[simp] theorem oSlA_s (l : List Nat) (lo hi : Option Int) : oSlA (.d (.str l)) lo hi μ = oSl (.d (.str l)) lo hi μ := rfl
@[simp] theorem oSlA_l (l : List D) (lo hi : Option Int) : oSlA (.d (.lst l)) lo hi μ = oSl (.d (.lst l)) lo hi μ := rfl
@[simp] theorem oAddA_t (a b : List D) : oAddA (.d (.tup a)) (.d (.tup b)) μ = if a.length + b.length ≤ 16777216 then okz (.tup (a ++ b)) μ else none := rfl
@[simp] theorem oAddA_i (a : Int) (b : Sv) : oAddA (.d (.int a)) b μ = oAdd (.d (.int a)) b μ := rfl
@[simp] theorem oAddA_s (a : List Nat) (b : Sv) : oAddA (.d (.str a)) b μ = oAdd (.d (.str a)) b μ := rfl
@[simp] theorem oAddA_l (a : List D) (b : Sv) : oAddA (.d (.lst a)) b μ = oAdd (.d (.lst a)) b μ := rfl
theorem oRep_c {n : Nat} {ds : List D} {k : Int} (h : μ[n]? = some (.lst (ds.map Sv.d))) (h1 : 0 ≤ k) (h2 : k ≤ 1000) (h3 : ds.length ≤ 1000) : oRep (.c n) (.d (.int k)) μ = okz (.lst (List.replicate k.toNat ds).flatten) μ := by
  have : ds.length * k.toNat ≤ 16777216 := Nat.le_trans (Nat.mul_le_mul h3 (show k.toNat ≤ 1000 by omega)) (by decide)
  unfold oRep
  simp only [h, toDs_map, List.length_map]
  rw [if_pos ⟨by omega, by omega, this⟩]
end
end Z
namespace Z
open PySem PySem.Spec PyProof.Rows L2
section
variable {P : Except Exn Sv → Mu → Prop} {R : Fl → Dl → Mu → Prop} {δ : Dl} {μ : Mu}
/-! ## the weakest conditions of fields, of methods, of making -/
def pickc (o : Option (Fn × List D)) (k : Fn → List D → Prop) (_ : Ph k := phm k) : Prop := match o with
  | some q => k q.1 q.2
  | none => False
@[simp ↓, simp] theorem pickc_s (fn : Fn) (ds : List D) (k : Fn → List D → Prop) : pickc (some (fn, ds)) k = k fn ds := rfl
@[simp] theorem Ev_meth (m : String) (ms : List (String × Fn × List D)) (fo : Fz Sv) (fr : Fz (List Sv)) : Ev (fMeth m ms fo fr δ μ) P = Ev (fo δ μ) (fun e μ => okc e (fun o => pickc (pick m ms μ o) fun fn dds => Ev (fr δ μ) (fun e μ => okc e (fun as => Ev (fn (o :: (as ++ dds.map Sv.d)) μ) P) (fun x => P (.error x) μ))) (fun x => P (.error x) μ)) := by
  show Ev (Rz.bind _ _) _ = _
  rw [Ev_bind]
  refine Ev_ext fun e μ => ?_; cases e with
  | error x => rfl
  | ok o =>
    simp only [okc_ok]
    cases h : pick m ms μ o with
    | none => simp [pickc, Ev]
    | some q =>
      obtain ⟨fn, dds⟩ := q
      simp only [pickc_s]
      exact Ev_bind ..
@[simp] theorem Ev_fld (ct : Ct) (f : String) (fo : Fz Sv) : Ev (fFld ct f fo δ μ) P = Ev (fo δ μ) (fun e μ => okc e (fun o => Ev (fldO ct f o μ) P) (fun x => P (.error x) μ)) := by
  show Ev (Rz.bind _ _) _ = _
  rw [Ev_bind]
@[simp] theorem Es_fld (ct : Ct) (f : String) (fo fv : Fz Sv) : Es (sFld ct f fo fv δ μ) R = Ev (fv δ μ) (fun e μ => okc e (fun v => Ev (fo δ μ) (fun e μ => okc e (fun o => Es (setF ct f o v δ μ) R) (fun x => R (.ex x) δ μ))) (fun x => R (.ex x) δ μ)) := by
  show Es (eS _ _ _) _ = _
  rw [Es_eS]
  refine Ev_ext fun e μ => ?_; cases e with
  | error x => rfl
  | ok v => simp only [okc_ok]; exact Es_eS ..
theorem Ev_mkZ {c : String} {fn : Fn} {ds : List D} {as : List Sv} (h : Ev (fn (.c μ.length :: (as ++ ds.map Sv.d)) (μ ++ [.ins c []])) fun e μ' => okc e (fun v => v = .d .non ∧ P (.ok (.c μ.length)) μ') (fun x => P (.error x) μ')) : Ev (mkZ c fn ds as μ) P := by
  obtain ⟨e, μ', he, p⟩ := h
  unfold mkZ
  cases e with
  | error x => exact ⟨_, _, by rw [he], p⟩
  | ok v =>
    obtain ⟨rfl, p⟩ := p
    exact ⟨_, _, by rw [he], p⟩
@[simp] theorem Ev_mk (c : String) (fn : Fn) (ds : List D) (fr : Fz (List Sv)) : Ev (fMk c fn ds fr δ μ) P = Ev (fr δ μ) (fun e μ => okc e (fun as => Ev (mkZ c fn ds as μ) P) (fun x => P (.error x) μ)) := by
  show Ev (Rz.bind _ _) _ = _
  rw [Ev_bind]
/-- a thing that is made and handed on as it is -/
theorem frz_mk {c : String} {fn : Fn} {ds : List D} {fr : Fz (List Sv)} {as : List Sv} {fs : List (String × D)} (hr : fr δ μ = some (.ok as, μ)) (h : ∀ μ0 : Mu, fn (.c μ0.length :: (as ++ ds.map Sv.d)) (μ0 ++ [.ins c []]) = some (.ok (.d .non), μ0 ++ [.ins c (fs.map fun p => (p.1, Sv.d p.2))])) : fFrz (fMk c fn ds fr) δ μ = some (.ok (.d (.ins c fs)), μ) := by
  show Rz.bind (Rz.bind (fr δ μ) _) _ = _
  rw [hr]
  simp only [Rz.bind_ok, mkZ, h]
  have q1 : (μ ++ [Cell.ins c (fs.map fun p => (p.1, Sv.d p.2))])[μ.length]? = some (.ins c (fs.map fun p => (p.1, Sv.d p.2))) := by simp
  have q2 : (μ ++ [Cell.ins c (fs.map fun p => (p.1, Sv.d p.2))]).set μ.length .fz = μ ++ [.fz] := by simp
  have q3 : ∀ gs : List (String × D), toFs (gs.map fun p => (p.1, Sv.d p.2)) = some gs := by
    intro gs
    induction gs with
    | nil => rfl
    | cons p r ih => simp only [List.map_cons, toFs, ih, Option.map_some]
  simp only [frzV, q1, q3, q2, gc_app]
end
end Z
namespace Z
open PySem PySem.Spec PyProof.Rows L2
open Sem (wp)
open AutoSeq1 (wpAny_loadPart')
/-! ## enumerate of a tuple -/
section
variable {prog : Program} {w : World} {A : Around} {E : Value → Shared → Prop} {s : Shared} {e it l : Addr} {i : Nat} {items : Array Value} {x old : Value} {St : Heap → Nat → Prop}
theorem enumF_next {Q : Value → Shared → Prop} (f : Feed it l items St)
    (he : IsEnum s.heap e it i old) (hit : St s.heap i) (hx : items[i]? = some x) (hne : e ≠ it) (hel' : l ≠ e)
    (hQ : ∀ h', IsEnumOut h' e it ((i : Int) + 1) x s.heap.objs.size → St h' (i + 1) →
      h'.get? s.heap.objs.size = some { cls := .type "tuple", data := .seq #[.int i s.toks, x] } → h'.objs.size = s.heap.objs.size + 1 →
      (∀ b o, b ≠ e → b ≠ it → s.heap.get? b = some o → h'.get? b = some o) → Q (.ref s.heap.objs.size) { s with heap := h', toks := s.toks + 1 }) :
    wpAny (model prog w) A (Builtin.«enumerate.__next__» ⟨[.ref e], []⟩) (fun fin s' => ∃ v, fin = .done (.ret v) ∧ Q v s') E s := by
  obtain ⟨hp, g, d, tk, os⟩ := s
  show wpAny _ _ (field (.ref e) 2 >>= _) _ _ _
  refine wpAny_bind (wpAny_field he rfl (x := .ref it) rfl ?_)
  refine wpAny_bind (f.item hit hx fun h₁ hit₁ hs₁ => ?_)
  replace hs₁ : Heap.SameBut it hp h₁ := hs₁
  have he₁ : IsEnum h₁ e it i old := (hs₁.2 e hne).trans he
  show wpAny _ _ (field (.ref e) 3 >>= _) _ _ ⟨h₁, g, d, tk, os⟩
  refine wpAny_bind (wpAny_field he₁ rfl (x := rawInt i) rfl ?_)
  show wpAny _ _ (field (.ref e) 4 >>= _) _ _ ⟨h₁, g, d, tk, os⟩
  refine wpAny_bind (wpAny_field he₁ rfl (x := .none) rfl ?_)
  show wpAny _ _ (mkInt i >>= _) _ _ ⟨h₁, g, d, tk, os⟩
  refine wpAny_bind (wpAny_mkInt ?_)
  show wpAny _ _ (setField (.ref e) 3 (rawInt ((i : Int) + 1)) >>= _) _ _ ⟨h₁, g, d, tk + 1, os⟩
  refine wpAny_bind (wpAny_setField_rec he₁ (by simp) fun h₂ he₂ hs₂ => ?_)
  replace hs₂ : Heap.SameBut e h₁ h₂ := hs₂
  replace he₂ : IsEnum h₂ e it ((i : Int) + 1) old := he₂
  show wpAny _ _ (setField (.ref e) 4 .none >>= _) _ _ ⟨h₂, g, d, tk + 1, os⟩
  refine wpAny_bind (wpAny_setField_rec he₂ (by simp) fun h₃ he₃ hs₃ => ?_)
  replace hs₃ : Heap.SameBut e h₂ h₃ := hs₃
  replace he₃ : IsEnum h₃ e it ((i : Int) + 1) old := he₃
  show wpAny _ _ (newTuple [.int i tk, x] >>= _) _ _ ⟨h₃, g, d, tk + 1, os⟩
  refine wpAny_bind (wpAny_newTuple ?_)
  have he₄ : IsEnum (h₃.push { cls := .type "tuple", data := .seq #[.int i tk, x] }) e it ((i : Int) + 1) old := Heap.get?_push_of_some _ he₃
  generalize hh₄ : h₃.push { cls := .type "tuple", data := .seq #[.int i tk, x] } = h₄ at he₄
  have hsz : h₃.objs.size = hp.objs.size := by rw [hs₃.1, hs₂.1, hs₁.1]
  have hel : e < hp.objs.size := Heap.lt_size he
  have ht₄ : h₄.get? hp.objs.size = some { cls := .type "tuple", data := .seq #[.int i tk, x] } := by rw [← hh₄, ← hsz]; exact Heap.get?_push_size _ rfl
  have hz₄ : h₄.objs.size = hp.objs.size + 1 := by rw [← hh₄, Heap.size_push, hsz]
  have hk₄ : ∀ b o, b ≠ e → b ≠ it → hp.get? b = some o → h₄.get? b = some o := fun b o hbe hbi hb => by
    rw [← hh₄]; exact Heap.get?_push_of_some _ (hs₃.extBut b o hbe (hs₂.extBut b o hbe (hs₁.extBut b o hbi hb)))
  have hit₄ : St h₄ (i + 1) := by
    rw [← hh₄]
    exact f.keep (f.stay (Ne.symm hne) hel' hs₃.extBut (f.stay (Ne.symm hne) hel' hs₂.extBut hit₁)) (fun o q => Heap.get?_push_of_some _ q) (fun o q => Heap.get?_push_of_some _ q)
  show wpAny _ _ (Builtin.SmallTypes.ownedTupleIsFree (.ref e) >>= _) _ _ ⟨h₄, g, d, tk + 1, os⟩
  rw [hsz]
  clear hh₄ he₃ hs₃ he₂ hs₂ he₁ hs₁ hit₁ hsz h₃ h₂ h₁
  refine wpAny_bind ?_
  · unfold Builtin.SmallTypes.ownedTupleIsFree
    refine wpAny_bind (wpAny_field he₄ rfl (x := .none) rfl (wpAny_pure ?_))
    simp only [if_true]
    refine wpAny_bind (wpAny_rule ?_)
    refine wpAny_bind (wpAny_field he₄ rfl (x := old) rfl ?_)
    refine wpAny_bind (wpAny_setField_rec he₄ (by simp) fun h₅ he₅ hs₅ => ?_)
    replace hs₅ : Heap.SameBut e h₄ h₅ := hs₅
    replace he₅ : IsEnum h₅ e it ((i : Int) + 1) x := he₅
    show wpAny _ _ (Builtin.SmallTypes.ownedTupleHandOut (.ref e) (.ref hp.objs.size) >>= _) _ _ ⟨h₅, g, d, tk + 1, os⟩
    refine wpAny_bind ?_
    · unfold Builtin.SmallTypes.ownedTupleHandOut
      refine wpAny_bind (wpAny_setField_rec he₅ (by simp) fun h₆ he₆ hs₆ => ?_)
      replace hs₆ : Heap.SameBut e h₅ h₆ := hs₆
      replace he₆ : IsEnumOut h₆ e it ((i : Int) + 1) x hp.objs.size := he₆
      refine wpAny_setField_rec he₆ (by simp) fun h₇ he₇ hs₇ => ?_
      replace hs₇ : Heap.SameBut e h₆ h₇ := hs₇
      replace he₇ : IsEnumOut h₇ e it ((i : Int) + 1) x hp.objs.size := he₇
      refine wpAny_bind (wpAny_letGo (wpAny_pure ⟨_, rfl, hQ h₇ he₇ ?_ ?_ ?_ ?_⟩))
      · exact f.stay (Ne.symm hne) hel' hs₇.extBut (f.stay (Ne.symm hne) hel' hs₆.extBut (f.stay (Ne.symm hne) hel' hs₅.extBut hit₄))
      · exact hs₇.extBut _ _ (Nat.ne_of_gt hel) (hs₆.extBut _ _ (Nat.ne_of_gt hel) (hs₅.extBut _ _ (Nat.ne_of_gt hel) ht₄))
      · rw [hs₇.1, hs₆.1, hs₅.1, hz₄]
      · exact fun b o hbe hbi hb => hs₇.extBut b o hbe (hs₆.extBut b o hbe (hs₅.extBut b o hbe (hk₄ b o hbe hbi hb)))
theorem pyNext_enumF_item {Q : Option Value → Shared → Prop} (f : Feed it l items St)
    (he : IsEnum s.heap e it i old) (hit : St s.heap i) (hx : items[i]? = some x) (hne : e ≠ it) (hel' : l ≠ e)
    (hQ : ∀ h', IsEnumOut h' e it ((i : Int) + 1) x s.heap.objs.size → St h' (i + 1) →
      h'.get? s.heap.objs.size = some { cls := .type "tuple", data := .seq #[.int i s.toks, x] } → h'.objs.size = s.heap.objs.size + 1 →
      (∀ b o, b ≠ e → b ≠ it → s.heap.get? b = some o → h'.get? b = some o) → Q (some (.ref s.heap.objs.size)) { s with heap := h', toks := s.toks + 1 }) :
    wpAny (model prog w) A (pyNext (.ref e)) Q E s := by
  have hT : s.TypeIs (.ref e) "enumerate" := ⟨_, he, rfl⟩
  unfold pyNext
  exact wpAny_bind (wpAny_attempt (wpAny_callSpecial?_slot (name := Str.ofString "__next__") hT F.slot_enumerate_next
    (wpAny_call_entry F.slot_enumerate_next hT F.entry_enumerate_next
      (enumF_next f he hit hx hne hel' fun h' a b c d k => wpAny_pure (hQ h' a b c d k)) (F.args_enumerate_next_1 _))))
theorem pyNext_enumF_end {Q : Option Value → Shared → Prop} (f : Feed it l items St) (hh : A.handled = none)
    (he : IsEnum s.heap e it i old) (hit : St s.heap i) (hx : items[i]? = none)
    (hQ : ∀ h', Heap.ExtBut it s.heap h' → Q none { s with heap := h' }) : wpAny (model prog w) A (pyNext (.ref e)) Q E s := by
  have hT : s.TypeIs (.ref e) "enumerate" := ⟨_, he, rfl⟩
  unfold pyNext
  refine wpAny_bind (wpAny_attempt (wpAny_callSpecial?_slot (name := Str.ofString "__next__") hT F.slot_enumerate_next
    (wpAny_call_entry F.slot_enumerate_next hT F.entry_enumerate_next ?_ (F.args_enumerate_next_1 _))))
  show wpAny _ _ (field (.ref e) 2 >>= _) _ _ _
  refine wpAny_bind (wpAny_field he rfl (x := .ref it) rfl ?_)
  refine wpAny_bind (f.stop hh hit hx fun h' x he' hx' => ?_)
  obtain ⟨o, ho, hc⟩ := hx'
  refine wpAny_bind (wpAny_isInstance (T := "StopIteration") (b := true) ⟨o, ho, hc⟩ isSubtype_stop ?_)
  exact wpAny_pure (hQ _ he')
end
theorem meets_enumT (l : Addr) (items : Array Value) (n : Nat) (dct : Option Addr) (sl : Array (Option Value)) :
    Meets (Builtin.«enumerate.__new__» ⟨[.type "enumerate", .ref l], []⟩) (fun _ R s => s.heap.get? l = some { cls := .type "tuple", dict := dct, data := .seq items n, slots := sl } ∧
      R (.ok (.ret (.ref (s.heap.push { cls := .type "tuple_iterator", data := .fields #[.ref l, .int 0 0] }).objs.size)))
        { s with heap := (s.heap.push { cls := .type "tuple_iterator", data := .fields #[.ref l, .int 0 0] }).push { cls := .type "enumerate", data := .fields #[.none, .bool false, .ref s.heap.objs.size, rawInt 0, .none, .none] } }) :=
  .of_wp fun prog w A R s h => by
    obtain ⟨hp, g, d, tk, os⟩ := s; obtain ⟨hl, h⟩ := h
    have hsub := sub_enumerate
    have hL : Heap.IsTuple (Shared.heap ⟨hp, g, d, tk, os⟩) l items := ⟨_, hl, rfl, n, rfl⟩
    wp_walk using wpAny_loadPart' hl
    refine wpAny_stack_any fun st => wpAny_pure ?_
    split
    · rename_i c _ _ _ _ _
      cases (c == Value.type "enumerate")
      · wp_walk using wpAny_loadPart' hl, wpAny_pyIter_tuple hL
        exact ⟨_, rfl, h⟩
      · wp_walk using wpAny_loadPart' hl, wpAny_pyIter_tuple hL
        exact ⟨_, rfl, h⟩
    · wp_walk using wpAny_loadPart' hl, wpAny_pyIter_tuple hL
      exact ⟨_, rfl, h⟩
section
variable {prog : Program} {w : World} {A : Around} {E : Value → Shared → Prop} {s : Shared}
theorem call_enumT {l : Addr} {items : Array Value} {Q : Value → Shared → Prop} (hL : s.heap.IsTuple l items)
    (h : ∀ h', IsEnum h' (s.heap.objs.size + 1) s.heap.objs.size 0 .none → h'.IsTupleIter s.heap.objs.size l 0 → h'.objs.size = s.heap.objs.size + 2 →
      (∀ b o, s.heap.get? b = some o → h'.get? b = some o) → Q (.ref (s.heap.objs.size + 1)) { s with heap := h' }) :
    wpAny (model prog w) A (call (.type "enumerate") [.ref l]) Q E s := by
  obtain ⟨⟨c, dct, dt, sl⟩, hl, hc, n, hd⟩ := hL
  replace hc : c = .type "tuple" := hc
  replace hd : dt = .seq items n := hd
  subst hc hd
  refine callType_new F.called_enumerate (by decide) (F.typeCall_enumerate_1 _) (F.newCall_enumerate_1 _) (fun obj => F.args_object_init_2 obj _) F.entry_enumerate_new
    (meets_enumT l items n dct sl) ⟨hl, ?_⟩
  have hz : (s.heap.push { cls := .type "tuple_iterator", data := .fields #[.ref l, .int 0 0] }).objs.size = s.heap.objs.size + 1 := Heap.size_push ..
  show _ ∧ _
  rw [hz]
  have he : IsEnum ((s.heap.push { cls := .type "tuple_iterator", data := .fields #[.ref l, .int 0 0] }).push
      { cls := .type "enumerate", data := .fields #[.none, .bool false, .ref s.heap.objs.size, rawInt 0, .none, .none] }) (s.heap.objs.size + 1) s.heap.objs.size 0 .none := by
    have := Heap.get?_push_size (s.heap.push { cls := .type "tuple_iterator", data := .fields #[.ref l, .int 0 0] })
      (o := { cls := .type "enumerate", data := .fields #[.none, .bool false, .ref s.heap.objs.size, rawInt 0, .none, .none] }) rfl
    rw [hz] at this; exact this
  refine ⟨⟨_, he, rfl⟩, h _ he ⟨_, Heap.get?_push_of_some _ (Heap.get?_push_size _ rfl), rfl, rfl⟩ (by rw [Heap.size_push, hz]) fun b o x => Heap.get?_push_of_some _ (Heap.get?_push_of_some _ x)⟩
end
end Z
namespace Z
open PySem PySem.Spec PyProof.Rows L2
/-- the tuple at a as it stands at each turn, each item in a new pair -/
def IteT (K : PySem.W.Frag) (a : Addr) : It :=
  ⟨fun i H => ∃ (xs : List V) (x : V), SqT K H a xs ∧ xs[i]? = some x, fun i H v H' => ∃ T x, v = .ref T ∧ H T = none ∧ H' = upd H T (.tup [.int (i : Nat), x]) ∧ ∀ xs, SqT K H a xs → xs[i]? = some x, fun i H => ∃ xs : List V, SqT K H a xs ∧ xs.length ≤ i⟩
theorem turn_enumT {P : Program} {w : World} {K : PySem.W.Frag} {elts : List Expr} {kk : Nat} {tpos : Pos} (a e it : Addr) :
    Turn P w K (.Tuple elts kk tpos) (IteT K a) [e, it] e (fun i h => (∃ old, IsEnum h e it ((i : Nat) : Int) old) ∧ h.IsTupleIter it a i ∧ e ≠ it ∧ a ≠ it ∧ a ≠ e) where
  mem := by simp
  obj := fun i h st b hb => by
    obtain ⟨⟨old, he⟩, ⟨o, ho, hc, hd⟩, _⟩ := st
    have e' : b = e ∨ b = it := by simpa using hb
    rcases e' with z | z
    · rw [z]; exact ⟨_, he, fun v q => nomatch q⟩
    · rw [z]; exact ⟨o, ho, fun v q => by rw [hd] at q; cases q⟩
  keep := fun i h h' st k => let ⟨⟨old, he⟩, ⟨o, ho, r⟩, hne⟩ := st; ⟨⟨old, k e (by simp) _ he⟩, ⟨o, k it (by simp) o ho, r⟩, hne⟩
  item := by
    intro X hP hw hK hc i pins s σ H E I hf st hg
    subst hP hw hK
    obtain ⟨⟨old, he⟩, hit, hne, na, nb⟩ := st
    obtain ⟨xs, x, hq, hx⟩ := hg
    obtain ⟨its, rv, p, hz⟩ := I.tuple hq
    obtain ⟨u, hu, ru⟩ := rv.get hx
    have hel : e < s.heap.objs.size := Heap.lt_size he
    have hil : it < s.heap.objs.size := by obtain ⟨_, q, _⟩ := hit; exact Heap.lt_size q
    refine pyNext_enumF_item (feed_tuple (xs := its.toArray) na) he ⟨hit, p⟩ (x := u) (by simpa using hu) hne nb fun h' ho hit' hT hsz hk => ?_
    refine ⟨_, rfl, wpAny_letOwnedTupleGo_enum (s := { s with heap := h', toks := s.toks + 1 }) ho fun h'' he' sb => ?_⟩
    have hT2 : h''.get? s.heap.objs.size = some { cls := .type "tuple", data := .seq #[.int i s.toks, u] } := (sb.2 _ (Nat.ne_of_gt hel)).trans hT
    have new : ObjOk X.prog X.w (upd H s.heap.objs.size (.tup [.int (i : Nat), x])) h'' s.heap.objs.size (.tup [.int (i : Nat), x]) :=
      ⟨by show 2 ≤ sizeLine; decide, [.int i s.toks, u], .cons ⟨_, rfl⟩ (.cons ru .nil), ⟨_, hT2, rfl, _, rfl⟩⟩
    have I1 : Inv X pins σ (upd H s.heap.objs.size (.tup [.int (i : Nat), x])) { s with heap := h'', toks := s.toks + 1 } :=
      I.turnedNew (ch := [e, it]) (fun b ob hb q => (sb.2 b (fun z => hb (by simp [z]))).trans (hk b ob (fun z => hb (by simp [z])) (fun z => hb (by simp [z])) q)) hf (Nat.le_refl _) new
    refine ⟨.ref s.heap.objs.size, _, I1, rfl, ⟨_, x, rfl, I.hok.fresh (Nat.le_refl _), rfl, fun ys hy => by rw [I.tuple_inj hy hq]; exact hx⟩, ⟨⟨u, ?_⟩, ?_, hne, na, nb⟩, fun b hb => ?_⟩
    · have e1 : ((i + 1 : Nat) : Int) = (i : Int) + 1 := by omega
      rw [e1]; exact he'
    · obtain ⟨o, eo, r⟩ := hit'.1
      exact ⟨o, (sb.2 it (Ne.symm hne)).trans eo, r⟩
    · have hb' : b < s.heap.objs.size := by
        have e' : b = e ∨ b = it := by simpa using hb
        rcases e' with z | z
        · rw [z]; exact hel
        · rw [z]; exact hil
      rw [upd_ne (Nat.ne_of_lt hb')]
      exact (hf b hb).1
  done := by
    intro X hP hw hK hc i pins s σ H E I hf st hg
    subst hP hw hK
    obtain ⟨⟨old, he⟩, hit, hne, na, nb⟩ := st
    obtain ⟨xs, hq, hx⟩ := hg
    obtain ⟨its, rv, p, hz⟩ := I.tuple hq
    obtain ⟨f0, f1, f2, f3, f4, f5⟩ := hf it (by simp)
    have hl := rv.length
    exact pyNext_enumF_end (feed_tuple (xs := its.toArray) na) (I.ok.hd hc) he ⟨hit, p⟩ (by simp; omega) fun h' eb => ⟨rfl, I.turned (t' := s.toks) (fun b o hb q => eb b o hb q) f0 f1 f3 f4 f5⟩
  self := fun A i s Q E st h => let ⟨⟨_, he⟩, _⟩ := st; wpAny_pyIter_enum he h
def iEnumA (K : PySem.W.Frag) (ta : TA) : TI := fun σ H R => ta σ H fun vs H1 => ∃ a xs, vs = [.ref a] ∧ ((SqL K H1 a xs ∧ R (Ite K a) H1) ∨ (SqT K H1 a xs ∧ R (IteT K a) H1))
theorem pi_enumA {X : Cx} {e : Expr} {ta : TA} {p pos tpos : Pos} {elts : List Expr} {kk : Nat} (hg : Gl X "enumerate") (hm : X.mg "enumerate" = none) (ha : PA X [e] ta) (hs : starEach [e] X.env = [(false, eval e X.env)] := by rfl) :
    PI X (.Tuple elts kk tpos) (.Call (.Name "enumerate" p) [e] [] pos) (iEnumA X.K ta) := by
  refine ⟨fun pins s σ H R I h => ?_⟩
  refine Call_ (ld_blt I hg hm boot_enumerate (PyProof.Rows.callWith_type1 (thn (ha.run pos pins s σ H _ I h) fun us s1 ⟨vs, H1, I1, r1, q1⟩ => ?_) hs rfl))
  obtain ⟨a, xs, ex, q1⟩ := q1
  subst ex
  cases r1 with
  | cons r rr =>
    cases rr
    cases r
    have fresh2 : ∀ b, b ∈ [s1.heap.objs.size + 1, s1.heap.objs.size] → FpOk X pins H1 b := fun b hb => by
      have e' : b = s1.heap.objs.size + 1 ∨ b = s1.heap.objs.size := by simpa using hb
      have hle : s1.heap.objs.size ≤ b := by omega
      exact I1.fpOk hle (I1.hok.fresh hle)
    rcases q1 with ⟨hq, q⟩ | ⟨hq, q⟩
    · obtain ⟨its, rv, p', hz⟩ := I1.list hq
      refine call_enumerate_list p'.isList fun h' he hit hsz hk => wpAny_pyIter_enum he ?_
      have I2 : Inv X pins σ H1 { s1 with heap := h' } := I1.kept (t' := s1.toks) hk
      exact ⟨s1.heap.objs.size + 1, [s1.heap.objs.size + 1, s1.heap.objs.size], _, _, H1, rfl, I2, turn_enum a (s1.heap.objs.size + 1) s1.heap.objs.size, ⟨⟨.none, he⟩, hit, Nat.succ_ne_self _⟩, fresh2, q⟩
    · obtain ⟨its, rv, p', hz⟩ := I1.tuple hq
      obtain ⟨o, ho, _⟩ := id p'
      have hl := Heap.lt_size ho
      refine call_enumT (show s1.heap.IsTuple a its.toArray from p') fun h' he hit hsz hk => wpAny_pyIter_enum he ?_
      have I2 : Inv X pins σ H1 { s1 with heap := h' } := I1.kept (t' := s1.toks) hk
      exact ⟨s1.heap.objs.size + 1, [s1.heap.objs.size + 1, s1.heap.objs.size], _, _, H1, rfl, I2, turn_enumT a (s1.heap.objs.size + 1) s1.heap.objs.size, ⟨⟨.none, he⟩, hit, Nat.succ_ne_self _, Nat.ne_of_lt hl, Nat.ne_of_lt (Nat.lt_succ_of_lt hl)⟩, fresh2, q⟩
section
variable {G : Gx} {X : Cx} {W : WX} {a : Expr} {fr : Fz (List Sv)} {p pos : Pos}
def enumMO (as : List Sv) (μ : Mu) : Rz Wk := match as with
  | [.d (.tup l)] => some (.ok ⟨enI 0 l, fun _ => True⟩, μ)
  | [v] => match lstC v μ with
    | some k => match toDs k.items with
      | some ds => some (.ok ⟨enI 0 ds, k.chk⟩, μ)
      | none => none
    | none => none
  | _ => none
def fEnumM (fr : Fz (List Sv)) : Fz Wk := fun δ μ => (fr δ μ).bind fun as μ => enumMO as μ
theorem zi_enumM (hK : G.K = X.K) {elts : List Expr} {kk : Nat} {tpos : Pos} (hg : Gl X "enumerate") (hm : X.mg "enumerate" = none) (ha : PA X [a] (zA G W fr)) (hs : starEach [a] X.env = [(false, eval a X.env)] := by rfl) :
    PI X (.Tuple elts kk tpos) (.Call (.Name "enumerate" p) [a] [] pos) (zW G W (fEnumM fr)) := piImp (pi_enumA hg hm ha hs) fun σ H R q => by
  obtain ⟨F, ρ, δ, μ, rr, w, s, e, p⟩ := q
  refine zstep w s e p fun sa μ1 x F1 ρ1 H1 g1 w1 s1 rx e1 p1 => ?_
  unfold enumMO at e1
  split at e1
  · rename_i ds
    cases e1
    cases rx with
    | cons r t =>
      cases t
      cases r with
      | d r =>
        cases r with
        | tup q1 q2 =>
          rename_i l vs
          refine ⟨l, vs, rfl, .inr ⟨by rw [← hK]; exact w1.ex.t q1, ?_⟩⟩
          rw [← hK]
          refine p1.ok w1 (fun F' ρ' μ' H' g w' c i => ?_)
          have r1 := w'.ex.t (g.f.t q1)
          have r2 := q2.mono g.f
          have hl := r2.len
          obtain ⟨ws, hws⟩ : ∃ ws, ws = vs := ⟨_, rfl⟩
          subst hws
          refine ⟨fun hi => ⟨ws, r1, by rw [hl]; rw [enI_len] at hi; exact hi⟩, fun y hy => ?_⟩
          rw [enI_get] at hy
          cases hd2 : ds[i]? with
          | none => rw [hd2] at hy; cases hy
          | some d =>
            rw [hd2] at hy
            have hy' : Sv.d (.tup [.int ((0 + i : Nat) : Int), d]) = y := Option.some.inj hy
            subst hy'
            obtain ⟨u, hu, ru⟩ := RsL.get (RsL.ofD (ρ := ρ') r2) (show (ds.map Sv.d)[i]? = some (.d d) by rw [List.getElem?_map, hd2]; rfl)
            refine ⟨⟨ws, u, r1, hu⟩, fun x H'' ⟨T, z, ev, hT, eH, hx⟩ => ?_⟩
            have e1 := hx ws r1
            rw [hu] at e1; cases e1
            subst ev eH
            obtain ⟨w2, g2⟩ := w'.newD hT (.tup [.int (i : Nat), u])
            refine ⟨_, ρ', g2, w2, .d (.tup (SqT.of upd_same) ?_)⟩
            cases ru with
            | d ru =>
              rw [Nat.zero_add]
              exact .cons (.int _) (.cons (ru.mono g2.f) .nil)
  · split at e1
    · rename_i v _ k hk
      split at e1
      · rename_i ds hd
        cases e1
        cases rx with
        | cons r t =>
          cases t
          obtain ⟨l, vs, rfl, h1, h2, hc, hh⟩ := lstC_at w1 r hk
          refine ⟨l, vs, rfl, .inl ⟨by rw [← hK]; exact h1, ?_⟩⟩
          rw [← hK]
          refine p1.ok w1 (fun F' ρ' μ' H' g w' c i => ?_)
          obtain ⟨ws, r1, r2⟩ := hh F' ρ' μ' H' g w' c
          rw [of_toDs hd] at r2
          have hl := r2.len
          rw [List.length_map] at hl
          refine ⟨fun hi => ⟨ws, r1, by rw [hl]; rw [enI_len] at hi; exact hi⟩, fun y hy => ?_⟩
          rw [enI_get] at hy
          cases hd2 : ds[i]? with
          | none => rw [hd2] at hy; cases hy
          | some d =>
            rw [hd2] at hy
            have hy' : Sv.d (.tup [.int ((0 + i : Nat) : Int), d]) = y := Option.some.inj hy
            subst hy'
            obtain ⟨u, hu, ru⟩ := RsL.get r2 (show (ds.map Sv.d)[i]? = some (.d d) by rw [List.getElem?_map, hd2]; rfl)
            refine ⟨⟨ws, u, r1, hu⟩, fun x H'' ⟨T, z, ev, hT, eH, hx⟩ => ?_⟩
            have e1 := hx ws r1
            rw [hu] at e1; cases e1
            subst ev eH
            obtain ⟨w2, g2⟩ := w'.newD hT (.tup [.int (i : Nat), u])
            refine ⟨_, ρ', g2, w2, .d (.tup (SqT.of upd_same) ?_)⟩
            cases ru with
            | d ru =>
              rw [Nat.zero_add]
              exact .cons (.int _) (.cons (ru.mono g2.f) .nil)
      · cases e1
    · cases e1
  · cases e1
end
section
variable {P : Except Exn Wk → Mu → Prop} {δ : Dl} {μ : Mu}
@[simp] theorem Ev_enumM (fr : Fz (List Sv)) : Ev (fEnumM fr δ μ) P = Ev (fr δ μ) (fun e μ => okc e (fun a => Ev (enumMO a μ) P) (fun x => P (.error x) μ)) := by
  show Ev (Rz.bind _ (fun a μ => enumMO a μ)) _ = _
  rw [Ev_bind]
@[simp] theorem enumMO_t (l : List D) : enumMO [.d (.tup l)] μ = some (.ok ⟨enI 0 l, fun _ => True⟩, μ) := rfl
@[simp] theorem enumMO_l (l : List D) : enumMO [.d (.lst l)] μ = some (.ok ⟨enI 0 l, fun _ => True⟩, μ) := by
  show (match toDs (l.map Sv.d) with
      | some ds => some (Except.ok (⟨enI 0 ds, fun _ => True⟩ : Wk), μ)
      | none => none) = _
  rw [toDs_map]
end
end Z
namespace Z
open PySem PySem.Spec PyProof.Rows L2
/-! ## defs with defaults -/
abbrev FunV (K : PySem.W.Frag) (x qual : Str) (st : Stmt) (dvs : List V) (f : Addr) (fd : FuncData) : Prop := FunD K x qual (defArgs st) (defBody st) (defScope st) dvs [] f fd
theorem funv_mk {K : PySem.W.Frag} {x qual : Str} {st : Stmt} {dvs : List V} {f T : Addr} {oc tc : Value} {od an td : Option Addr} {osl tsl : Array (Option Value)} {kV doc pm cdv ct : Value} {its : Array Value} {n : Nat}
    (l : K.lookup f = some ⟨oc, od, .func (PySem.W.fnOf x qual (defArgs st) (defBody st) (defScope st) (.ref T) kV doc pm an cdv ct), osl⟩) (t : K.lookup T = some ⟨tc, td, .seq its n, tsl⟩) (v : Vals dvs its.toList) (hd : dvs ≠ [])
    (c : PySem.W.codeIn K cdv qual = true) (k : PySem.W.keepIn K (.ref f) = true) : FunV K x qual st dvs f (PySem.W.fnOf x qual (defArgs st) (defBody st) (defScope st) (.ref T) kV doc pm an cdv ct) :=
  ⟨⟨oc, od, .ref T, kV, doc, pm, an, cdv, ct, osl, rfl, l, c, .inr ⟨hd, T, _, its.toList, n, rfl, t, by simp, v⟩, .inl rfl⟩, k⟩
theorem ok_defV {P : Program} {w : World} {mg : Str → Option Value} {base : Heap} {G : Gx} {x qual : Str} {st : Stmt} {dvs : List V} {f : Addr} {fd : FuncData} {N ps : List Str} {k : Nat} {S : Sz} {sc : Scope} (hS : defScope st = sc) (Fu : FunV G.K x qual st dvs f fd) (Sc : FnScope N ps sc)
    (body : ∀ (cdv : Value) (A : Around) (outer : List Env) (s : Shared) (H : Hp) (E : XK), Room k (A.deeper (envOfC qual sc s.heap.objs.size f cdv)) →
      PSs (cxOf (L2.CX P w) P w G.K mg base N qual sc f cdv A outer s H E) (defBody st) (zS G (fun c d _ H => E c d H) S)) :
    FnOk P w G.K mg base (L2.CX P w) (k + 1) f fd ps (spF G (runB ps.length N.length S)) := by
  subst hS
  refine Fu.ok (CX := L2.CX P w) Sc (fun vs H Q E h => by
    obtain ⟨F, ρ, μ, svs, r, wf, rs, e, p⟩ := h
    unfold runB at e
    split at e
    · rename_i q; rw [rs.len]; exact q
    · cases e) (fun cdv A outer s H vs Q E hr h => ?_)
  obtain ⟨F, ρ, μ, svs, r, wf, rs, e, p⟩ := h
  refine ⟨_, body cdv A outer s H E hr, ?_⟩
  unfold runB at e
  split at e
  case isFalse => cases e
  have sl := Sl.start (N.length - svs.length) rs
  cases h : S (svs.map some ++ List.replicate (N.length - svs.length) none) μ with
  | none => rw [h] at e; cases e
  | some q =>
    obtain ⟨fl, δ1, μ1⟩ := q
    rw [h] at e
    refine ⟨F, ρ, _, μ, _, wf, (by unfold L2.start; rw [rs.len]; exact sl), h, ?_⟩
    cases fl with
    | nx =>
      cases e
      intro σ' F' ρ' H' g w' s'
      obtain ⟨ρ2, _, g2, w2⟩ := wf.gc g w'
      exact p .non F' ρ2 H' g2 w2 (.d .non)
    | bk => cases e
    | ct => cases e
    | rt v =>
      cases v with
      | d x =>
        cases e
        intro a F' ρ' H' g w' s'
        obtain ⟨ρ2, _, g2, w2⟩ := wf.gc g w'
        cases s' with
        | d s' => exact p a F' ρ2 H' g2 w2 (.d s')
      | c m => cases e; exact fun a F' ρ' H' g w' s' => p a F' ρ' H' g w' s'
    | ex x =>
      cases e
      intro c d σ' F' ρ' H' g w' s' xr
      obtain ⟨ρ2, _, g2, w2⟩ := wf.gc g w'
      exact p c d F' ρ2 H' g2 w2 xr
end Z
namespace Z
open PySem PySem.Spec PyProof.Rows L2
/-! ## helpers of the plain calculus -/
@[simp] theorem atI0 {α : Type} (x : α) (l : List α) : L2.atI (x :: l) 0 = some x := by
  rw [atI_eq (by omega) (by simp only [List.length_cons]; omega)]; simp
@[simp] theorem atI1 {α : Type} (x y : α) (l : List α) : L2.atI (x :: y :: l) 1 = some y := by
  rw [atI_eq (by omega) (by simp only [List.length_cons]; omega)]; simp
@[simp] theorem atI2 {α : Type} (x y z : α) (l : List α) : L2.atI (x :: y :: z :: l) 2 = some z := by
  rw [atI_eq (by omega) (by simp only [List.length_cons]; omega)]; simp
@[simp] theorem atI3 {α : Type} (x y z u : α) (l : List α) : L2.atI (x :: y :: z :: u :: l) 3 = some u := by
  rw [atI_eq (by omega) (by simp only [List.length_cons]; omega)]; simp
@[simp] theorem atI4 {α : Type} (x y z u v : α) (l : List α) : L2.atI (x :: y :: z :: u :: v :: l) 4 = some v := by
  rw [atI_eq (by omega) (by simp only [List.length_cons]; omega)]; simp
theorem atI_if {α : Type} (p : Prop) [Decidable p] (a b : α) : L2.atI [a, b] (if p then 1 else 0) = some (if p then b else a) := by
  split <;> simp
theorem atI_nat {α : Type} {l : List α} {i : Nat} {x : α} (h : l[i]? = some x) : L2.atI l (i : Int) = some x := by
  have := (List.getElem?_eq_some_iff.1 h).1
  rw [atI_eq (by omega) (by omega)]; simpa using h
/-- a place drawn within a list -/
theorem atI_mod {α : Type} (l : List α) (n : Int) (h : l ≠ []) : ∃ x, L2.atI l (n % (l.length : Int)) = some x ∧ l[(n % (l.length : Int)).toNat]? = some x ∧ x ∈ l := by
  have hl : 0 < l.length := List.length_pos_iff.2 h
  exact atI_of (Int.emod_nonneg _ (by omega)) (Int.emod_lt_of_pos _ (by omega))
theorem getD_at {α : Type} {l : List α} {i : Nat} {d : α} (h : i < l.length) : l[i]? = some (l.getD i d) := by
  rw [List.getD, List.getElem?_eq_getElem h]; rfl
/-- one of each -/
theorem ex_list {α β : Type} {R : α → β → Prop} : ∀ {l : List α}, (∀ (i : Nat) (y : α), l[i]? = some y → ∃ o, R y o) → ∃ os : List β, os.length = l.length ∧ ∀ (i : Nat) (y : α) (o : β), l[i]? = some y → os[i]? = some o → R y o
  | [], _ => ⟨[], rfl, fun i y o h => by simp at h⟩
  | x :: l, h => by
    obtain ⟨o, ho⟩ := h 0 x rfl
    obtain ⟨os, h1, h2⟩ := ex_list (l := l) fun i y hy => h (i + 1) y (by simpa using hy)
    refine ⟨o :: os, by simp [h1], fun i y z hy hz => ?_⟩
    cases i with
    | zero => simp at hy hz; subst hy hz; exact ho
    | succ i => exact h2 i y z (by simpa using hy) (by simpa using hz)
section
variable {P : Except Exn Sv → Mu → Prop} {δ : Dl} {μ : Mu} {vs : List Nat} {g : Tz} {e : Fz Sv}
/-- a comprehension that changes nothing -/
theorem Ev_mapC {fi : Fz (List Sv)} (items : List Sv) (hi : Ev (fi δ μ) fun r μ' => r = .ok items ∧ μ' = μ) (hn : items.length ≤ 16777216) (R : Nat → D → Prop)
    (hs : ∀ (i : Nat) (x : Sv) (μ' : Mu), items[i]? = some x → someD (g x (wipeZ δ vs)) fun δ1 => Ev (e δ1 μ') fun r μ2 => ∃ y, r = .ok (.d y) ∧ μ2 = μ' ∧ R i y)
    (he : ∀ acc : List D, acc.length = items.length → (∀ i y, acc[i]? = some y → R i y) → P (.ok (.d (.lst acc))) μ) : Ev (fFrz (fLcC fi vs g fYes e) δ μ) P := by
  refine Ev_lcF items (of_Ev hi) hn (fun i acc μ' => μ' = μ ∧ acc.length = i ∧ ∀ j y, acc[j]? = some y → R j y) ⟨rfl, rfl, fun j y h => by simp at h⟩ ?_ ?_
  · rintro i x acc μ' hx _ _ ⟨rfl, rfl, hR⟩
    have h := hs _ x (μ' ++ [.lst (acc.map Sv.d)]) hx
    cases hg : g x (wipeZ δ vs) with
    | none => rw [hg] at h; exact h.elim
    | some δ1 =>
      rw [hg] at h
      simp only [someD_s, fYes_eq, Ev_some] at h ⊢
      refine ⟨true, rfl, ?_⟩
      simp only [if_true]
      refine h.imp ?_
      rintro _ _ ⟨y, rfl, rfl, hy⟩
      refine ⟨y, _, rfl, rfl, rfl, rfl, by simp, fun j z hz => ?_⟩
      by_cases hj : j < acc.length
      · rw [List.getElem?_append_left hj] at hz; exact hR j z hz
      · rw [List.getElem?_append_right (by omega)] at hz
        have : j = acc.length := by
          have := (List.getElem?_eq_some_iff.1 hz).1
          simp at this; omega
        subst this
        simp at hz; subst hz; exact hy
  · rintro acc μ' _ _ ⟨rfl, hl, hR⟩
    exact ⟨Lk.refl _, he acc hl hR⟩
theorem Ev_map {fi : Fz Wk} (items : List Sv) (hi : Ev (fi δ μ) fun r μ' => r = .ok ⟨items, fun _ => True⟩ ∧ μ' = μ) (hn : items.length ≤ 16777216) (R : Nat → D → Prop)
    (hs : ∀ (i : Nat) (x : Sv) (μ' : Mu), items[i]? = some x → someD (g x (wipeZ δ vs)) fun δ1 => Ev (e δ1 μ') fun r μ2 => ∃ y, r = .ok (.d y) ∧ μ2 = μ' ∧ R i y)
    (he : ∀ acc : List D, acc.length = items.length → (∀ i y, acc[i]? = some y → R i y) → P (.ok (.d (.lst acc))) μ) : Ev (fFrz (fLcW fi vs g fYes e) δ μ) P := by
  have : fFrz (fLcW fi vs g fYes e) δ μ = fFrz (fLcC (fun _ m => some (.ok items, m)) vs g fYes e) δ μ := by
    show Rz.bind _ _ = Rz.bind _ _
    rw [lcW_from (of_Ev hi)]
  rw [this]
  exact Ev_mapC items (by simp) hn R hs he
/-- the same of an operation whose value is known -/
theorem Ev_mapE {fi : Fz Wk} {α : Type} (xs : List α) (it : α → Sv) (f : α → D) (hi : Ev (fi δ μ) fun r μ' => r = .ok ⟨xs.map it, fun _ => True⟩ ∧ μ' = μ) (hn : xs.length ≤ 16777216)
    (hs : ∀ (x : α) (μ' : Mu), x ∈ xs → someD (g (it x) (wipeZ δ vs)) fun δ1 => Ev (e δ1 μ') fun r μ2 => r = .ok (.d (f x)) ∧ μ2 = μ')
    (he : P (.ok (.d (.lst (xs.map f)))) μ) : Ev (fFrz (fLcW fi vs g fYes e) δ μ) P := by
  refine Ev_of (lcWm xs it (of_Ev hi) hn f fun x μ' hx => ?_) he
  have h := hs x μ' hx
  cases hg : g (it x) (wipeZ δ vs) with
  | none => rw [hg] at h; exact h.elim
  | some δ1 =>
    rw [hg] at h
    exact ⟨δ1, rfl, of_Ev (by simpa using h)⟩
end
section
variable {ct : Ct} {f c : String} {fs : List (String × D)} {gs : List (String × Sv)} {v : Sv} {δ : Dl} {μ : Mu} {R : Fl → Dl → Mu → Prop} {n : Nat}
def lkD (fs : List (String × D)) (f : String) (μ : Mu) : Rz Sv := match fs.lookup f with | some x => okz x μ | none => none
@[simp] theorem lkD_cons {g : String} {x : D} : lkD ((g, x) :: fs) f μ = if g = f then okz x μ else lkD fs f μ := by
  unfold lkD; rw [List.lookup_cons]
  by_cases h : g = f
  · simp [h]
  · have : ¬ (f == g) = true := by simpa using fun e => h e.symm
    simp [h, this]
def lkC (fs : List (String × Sv)) (f : String) (μ : Mu) : Rz Sv := match fs.lookup f with | some x => some (.ok x, μ) | none => none
@[simp] theorem lkC_cons {g : String} {x : Sv} : lkC ((g, x) :: gs) f μ = if g = f then some (.ok x, μ) else lkC gs f μ := by
  unfold lkC; rw [List.lookup_cons]
  by_cases h : g = f
  · simp [h]
  · have : ¬ (f == g) = true := by simpa using fun e => h e.symm
    simp [h, this]
@[simp] theorem fldO_ins : fldO ct f (.d (.ins c fs)) μ = if hasF ct.ins c f = true then lkD fs f μ else none := rfl
@[simp] theorem fldO_exc : fldO ct f (.d (.exc c fs)) μ = if hasF ct.exc c f = true then lkD fs f μ else none := rfl
theorem fldO_c (h : μ[n]? = some (.ins c gs)) : fldO ct f (.c n) μ = if hasF ct.ins c f = true then lkC gs f μ else none := by
  show (match μ[n]? with
    | some (.ins c fs) => if hasF ct.ins c f = true then match fs.lookup f with
      | some x => (some (Except.ok x, μ) : Rz Sv)
      | none => none else none
    | _ => none) = _
  rw [h]; rfl
theorem Es_setF (h : μ[n]? = some (.ins c gs)) : Es (setF ct f (.c n) v δ μ) R = ((hasF ct.ins c f = true ∧ gs.length < 1000) ∧ R .nx δ (μ.set n (.ins c (putZ f v gs)))) := by
  by_cases q : hasF ct.ins c f = true ∧ gs.length < 1000 <;> simp [setF, h, q]
@[simp] theorem Es_setF_app : Es (setF ct f (.c μ.length) v δ (μ ++ [.ins c gs])) R = ((hasF ct.ins c f = true ∧ gs.length < 1000) ∧ R .nx δ (μ ++ [.ins c (putZ f v gs)])) := by
  rw [Es_setF (c := c) (gs := gs) (by simp)]; simp
@[simp] theorem putZ_nil : putZ f v [] = [(f, v)] := rfl
@[simp] theorem putZ_cons {g : String} {x : Sv} : putZ f v ((g, x) :: gs) = if g = f then (g, v) :: gs else (g, x) :: putZ f v gs := rfl
def lkM (ms : List (String × Fn × List D)) (c : String) : Option (Fn × List D) := ms.lookup c
@[simp] theorem lkM_cons {g c : String} {x : Fn × List D} {r : List (String × Fn × List D)} : lkM ((g, x) :: r) c = if g = c then some x else lkM r c := by
  unfold lkM; rw [List.lookup_cons]
  by_cases h : g = c
  · simp [h]
  · have : ¬ (c == g) = true := by simpa using fun e => h e.symm
    simp [h, this]
def noF {α : Type} (fs : List (String × α)) (m : String) : Bool := (fs.lookup m).isNone
@[simp] theorem noF_nil {α : Type} {m : String} : noF ([] : List (String × α)) m = true := rfl
@[simp] theorem noF_cons {α : Type} {g m : String} {x : α} {r : List (String × α)} : noF ((g, x) :: r) m = if g = m then false else noF r m := by
  unfold noF; rw [List.lookup_cons]
  by_cases h : g = m
  · simp [h]
  · have : ¬ (m == g) = true := by simpa using fun e => h e.symm
    simp [h, this]
@[simp] theorem pick_ins {m : String} {ms : List (String × Fn × List D)} : pick m ms μ (.d (.ins c fs)) = if noF fs m = true then lkM ms c else none := rfl
theorem pick_c {m : String} {ms : List (String × Fn × List D)} (h : μ[n]? = some (.ins c gs)) : pick m ms μ (.c n) = if noF gs m = true then lkM ms c else none := by
  show (if (match μ[n]? with
    | some (.ins _ fs) => (fs.lookup m).isNone
    | _ => false) = true then (Option.bind (match μ[n]? with
    | some (.ins c _) => some c
    | _ => none) fun c => ms.lookup c) else none) = _
  rw [h]; rfl
end
/-- a thing made and handed on: what __init__ leaves -/
theorem Ev_frzmk {c : String} {fn : Fn} {ds : List D} {fr : Fz (List Sv)} {δ : Dl} {μ : Mu} {P : Except Exn Sv → Mu → Prop} {as : List Sv} (fs : List (String × D)) (hr : Ev (fr δ μ) fun r μ' => r = .ok as ∧ μ' = μ)
    (h : ∀ μ0 : Mu, Ev (fn (.c μ0.length :: (as ++ ds.map Sv.d)) (μ0 ++ [.ins c []])) fun r μ' => r = .ok (.d .non) ∧ μ' = μ0 ++ [.ins c (fs.map fun p => (p.1, Sv.d p.2))]) (p : P (.ok (.d (.ins c fs))) μ) : Ev (fFrz (fMk c fn ds fr) δ μ) P := by
  refine Ev_of (frz_mk (fs := fs) (of_Ev hr) fun μ0 => ?_) p
  obtain ⟨e, μ', h1, rfl, rfl⟩ := h μ0
  exact h1
theorem gc_app1 (μ : Mu) (c : Cell) : gcM (μ ++ [c]) (μ ++ [c]) = μ ++ [c] := gc_self _
/-- a function's body that only fills the cell that it was given, the last one -/
theorem gc_last {μ : Mu} {c c' : Cell} : gcM (μ ++ [c]) (μ ++ [c']) = μ ++ [c'] := by
  exact gc_len (by simp)
@[simp] theorem gc_lastS {μ : Mu} {c c' : Cell} : gcM (μ ++ [c]) (μ ++ [c']) = μ ++ [c'] := gc_last
@[simp] theorem gc_appS {μ t : Mu} : gcM μ (μ ++ t) = μ := gc_app μ t
/-- a for over what stays -/
theorem Es_for_ {fi : Fz Wk} {g : Tz} {S : Sz} {δ : Dl} {μ : Mu} {R : Fl → Dl → Mu → Prop} (items : List Sv) (hi : Ev (fi δ μ) fun r μ' => r = .ok ⟨items, fun _ => True⟩ ∧ μ' = μ) (I : Nat → Dl → Mu → Prop) (h0 : I 0 δ μ)
    (hs : ∀ (i : Nat) (x : Sv) (δ : Dl) (μ : Mu), items[i]? = some x → I i δ μ → someD (g x δ) fun δ1 => Es (S δ1 μ) fun f δ2 μ2 => match f with
      | .nx => I (i + 1) δ2 μ2
      | .ct => I (i + 1) δ2 μ2
      | .bk => R .nx δ2 μ2
      | f => R f δ2 μ2) (he : ∀ δ μ, I items.length δ μ → R .nx δ μ) : Es (sForW fi g S δ μ) R := by
  refine Es_forWt (of_Ev hi) (Es_forL I items 0 δ μ h0 (fun i x δ μ hx h => ?_) (fun δ μ h => he δ μ (by simpa using h)))
  rw [Nat.zero_add] at h ⊢
  exact hs i x δ μ hx h
end Z
namespace Z
open PySem PySem.Spec PyProof.Rows L2
/-! ## == of trees, by their build -/
mutual
def D.eqv : D → D → Bool
  | .non, .non => true
  | .bl a, .bl b => a == b
  | .bl a, .int j => (if a then 1 else 0) == j
  | .int i, .bl b => i == (if b then 1 else 0)
  | .int i, .int j => i == j
  | .str x, .str y => decide (x = y)
  | .lst x, .lst y => D.eqvL x y
  | .tup x, .tup y => D.eqvL x y
  | _, _ => false
def D.eqvL : List D → List D → Bool
  | [], [] => true
  | x :: r, y :: s => D.eqv x y && D.eqvL r s
  | _, _ => false
end
theorem strz (x y : List Nat) : ((⟨x.toArray⟩ : Str) == ⟨y.toArray⟩) = decide (x = y) := by
  have h1 : ((⟨x.toArray⟩ : Str) == ⟨y.toArray⟩) = decide ((⟨x.toArray⟩ : Str) = ⟨y.toArray⟩) := rfl
  rw [h1, str_dec]
theorem py_lst {l : List D} {p : PyData} (h : (D.lst l).py = some p) : ∃ ps, D.py.pys l = some ps ∧ p = .list ps := by
  simp only [D.py] at h
  cases e : D.py.pys l with
  | none => rw [e] at h; cases h
  | some q => rw [e] at h; cases h; exact ⟨q, rfl, rfl⟩
theorem py_tup {l : List D} {p : PyData} (h : (D.tup l).py = some p) : ∃ ps, D.py.pys l = some ps ∧ p = .tuple ps := by
  simp only [D.py] at h
  cases e : D.py.pys l with
  | none => rw [e] at h; cases h
  | some q => rw [e] at h; cases h; exact ⟨q, rfl, rfl⟩
theorem pys_cons {x : D} {r : List D} {ps : List PyData} (h : D.py.pys (x :: r) = some ps) : ∃ p q, x.py = some p ∧ D.py.pys r = some q ∧ ps = p :: q := by
  simp only [D.py.pys] at h
  cases e : x.py with
  | none => rw [e] at h; cases h
  | some p =>
    cases e2 : D.py.pys r with
    | none => rw [e, e2] at h; cases h
    | some q => rw [e, e2] at h; cases h; exact ⟨p, q, rfl, rfl, rfl⟩
mutual
theorem eqv_py : ∀ (a b : D) (p q : PyData), a.py = some p → b.py = some q → PyData.eqv p q = D.eqv a b
  | a, b, p, q, h1, h2 => by
    match a, h1 with
    | .lst l, h1 =>
      obtain ⟨ps, e1, rfl⟩ := py_lst h1
      match b, h2 with
      | .lst m, h2 =>
        obtain ⟨qs, e2, rfl⟩ := py_lst h2
        simp only [PyData.eqv, D.eqv]
        exact eqvL_py l m ps qs e1 e2
      | .tup m, h2 => obtain ⟨qs, e2, rfl⟩ := py_tup h2; simp only [PyData.eqv, D.eqv]
      | .non, h2 => cases h2; simp only [PyData.eqv, D.eqv]
      | .bl _, h2 => cases h2; simp only [PyData.eqv, D.eqv]
      | .int _, h2 => cases h2; simp only [PyData.eqv, D.eqv]
      | .str _, h2 => cases h2; simp only [PyData.eqv, D.eqv]
    | .tup l, h1 =>
      obtain ⟨ps, e1, rfl⟩ := py_tup h1
      match b, h2 with
      | .tup m, h2 =>
        obtain ⟨qs, e2, rfl⟩ := py_tup h2
        simp only [PyData.eqv, D.eqv]
        exact eqvL_py l m ps qs e1 e2
      | .lst m, h2 => obtain ⟨qs, e2, rfl⟩ := py_lst h2; simp only [PyData.eqv, D.eqv]
      | .non, h2 => cases h2; simp only [PyData.eqv, D.eqv]
      | .bl _, h2 => cases h2; simp only [PyData.eqv, D.eqv]
      | .int _, h2 => cases h2; simp only [PyData.eqv, D.eqv]
      | .str _, h2 => cases h2; simp only [PyData.eqv, D.eqv]
    | .non, h1 =>
      cases h1
      match b, h2 with
      | .tup m, h2 => obtain ⟨qs, e2, rfl⟩ := py_tup h2; simp only [PyData.eqv, D.eqv]
      | .lst m, h2 => obtain ⟨qs, e2, rfl⟩ := py_lst h2; simp only [PyData.eqv, D.eqv]
      | .non, h2 => cases h2; simp only [PyData.eqv, D.eqv]
      | .bl _, h2 => cases h2; simp only [PyData.eqv, D.eqv]
      | .int _, h2 => cases h2; simp only [PyData.eqv, D.eqv]
      | .str _, h2 => cases h2; simp only [PyData.eqv, D.eqv]
    | .bl _, h1 =>
      cases h1
      match b, h2 with
      | .tup m, h2 => obtain ⟨qs, e2, rfl⟩ := py_tup h2; simp only [PyData.eqv, D.eqv]
      | .lst m, h2 => obtain ⟨qs, e2, rfl⟩ := py_lst h2; simp only [PyData.eqv, D.eqv]
      | .non, h2 => cases h2; simp only [PyData.eqv, D.eqv]
      | .bl _, h2 => cases h2; simp only [PyData.eqv, D.eqv]
      | .int _, h2 => cases h2; simp only [PyData.eqv, D.eqv]
      | .str _, h2 => cases h2; simp only [PyData.eqv, D.eqv]
    | .int _, h1 =>
      cases h1
      match b, h2 with
      | .tup m, h2 => obtain ⟨qs, e2, rfl⟩ := py_tup h2; simp only [PyData.eqv, D.eqv]
      | .lst m, h2 => obtain ⟨qs, e2, rfl⟩ := py_lst h2; simp only [PyData.eqv, D.eqv]
      | .non, h2 => cases h2; simp only [PyData.eqv, D.eqv]
      | .bl _, h2 => cases h2; simp only [PyData.eqv, D.eqv]
      | .int _, h2 => cases h2; simp only [PyData.eqv, D.eqv]
      | .str _, h2 => cases h2; simp only [PyData.eqv, D.eqv]
    | .str _, h1 =>
      cases h1
      match b, h2 with
      | .tup m, h2 => obtain ⟨qs, e2, rfl⟩ := py_tup h2; simp only [PyData.eqv, D.eqv]
      | .lst m, h2 => obtain ⟨qs, e2, rfl⟩ := py_lst h2; simp only [PyData.eqv, D.eqv]
      | .non, h2 => cases h2; simp only [PyData.eqv, D.eqv]
      | .bl _, h2 => cases h2; simp only [PyData.eqv, D.eqv]
      | .int _, h2 => cases h2; simp only [PyData.eqv, D.eqv]
      | .str _, h2 => cases h2; simp only [PyData.eqv, D.eqv, strz]
theorem eqvL_py : ∀ (a b : List D) (p q : List PyData), D.py.pys a = some p → D.py.pys b = some q → PyData.eqvAll p q = D.eqvL a b
  | [], [], _, _, h1, h2 => by cases h1; cases h2; simp only [PyData.eqvAll, D.eqvL]
  | [], y :: s, _, _, h1, h2 => by cases h1; obtain ⟨_, _, _, _, rfl⟩ := pys_cons h2; simp only [PyData.eqvAll, D.eqvL]
  | x :: r, [], _, _, h1, h2 => by cases h2; obtain ⟨_, _, _, _, rfl⟩ := pys_cons h1; simp only [PyData.eqvAll, D.eqvL]
  | x :: r, y :: s, _, _, h1, h2 => by
    obtain ⟨p, ps, a1, a2, rfl⟩ := pys_cons h1
    obtain ⟨q, qs, b1, b2, rfl⟩ := pys_cons h2
    simp only [PyData.eqvAll, D.eqvL]
    rw [eqv_py x y p q a1 b1, eqvL_py r s ps qs a2 b2]
end
theorem eqD_eqv {a b : D} {n m : Nat} (ha : D.ok n a = true) (hb : D.ok m b = true) (h : min n m ≤ 60) : eqD a b = some (D.eqv a b) := by
  obtain ⟨p, e1, d1⟩ := ok_py n a ha
  obtain ⟨q, e2, d2⟩ := ok_py m b hb
  have : min p.depth q.depth ≤ 60 := by omega
  simp only [eqD, e1, e2, Option.bind_some, if_pos this, eqv_py a b p q e1 e2]
/-! without truths: == is being the same -/
mutual
def D.nb : D → Bool
  | .non => true
  | .bl _ => false
  | .int _ => true
  | .str _ => true
  | .lst l => D.nbL l
  | .tup l => D.nbL l
  | .ins _ _ => false
  | .exc _ _ => false
def D.nbL : List D → Bool
  | [] => true
  | x :: r => D.nb x && D.nbL r
end
mutual
theorem eqv_iff : ∀ (a b : D), D.nb a = true → D.nb b = true → (D.eqv a b = true ↔ a = b)
  | .lst l, b, h1, h2 => by
    cases b <;> simp [D.eqv, D.nb] at h1 h2 ⊢
    exact eqvL_iff l _ h1 h2
  | .tup l, b, h1, h2 => by
    cases b <;> simp [D.eqv, D.nb] at h1 h2 ⊢
    exact eqvL_iff l _ h1 h2
  | .non, b, h1, h2 => by cases b <;> simp [D.eqv, D.nb] at h1 h2 ⊢
  | .bl _, b, h1, h2 => by simp [D.nb] at h1
  | .int _, b, h1, h2 => by cases b <;> simp [D.eqv, D.nb] at h1 h2 ⊢
  | .str _, b, h1, h2 => by cases b <;> simp [D.eqv, D.nb] at h1 h2 ⊢
  | .ins _ _, b, h1, h2 => by simp [D.nb] at h1
  | .exc _ _, b, h1, h2 => by simp [D.nb] at h1
theorem eqvL_iff : ∀ (a b : List D), D.nbL a = true → D.nbL b = true → (D.eqvL a b = true ↔ a = b)
  | [], [], _, _ => by simp [D.eqvL]
  | [], _ :: _, _, _ => by simp [D.eqvL]
  | _ :: _, [], _, _ => by simp [D.eqvL]
  | x :: r, y :: s, h1, h2 => by
    simp [D.eqvL, D.nbL] at h1 h2 ⊢
    rw [eqv_iff x y h1.1 h2.1, eqvL_iff r s h1.2 h2.2]
end
theorem nbL_iff {l : List D} : D.nbL l = true ↔ ∀ x ∈ l, D.nb x = true := by
  induction l with
  | nil => simp [D.nbL]
  | cons x r ih => simp [D.nbL, ih]
theorem okL_iff {n : Nat} {l : List D} : D.okL n l = true ↔ ∀ x ∈ l, D.ok n x = true := by
  induction l with
  | nil => simp [D.okL]
  | cons x r ih => simp [D.okL, ih]
open Classical in
theorem eqD_nb {a b : D} {n m : Nat} (ha : D.ok n a = true) (hb : D.ok m b = true) (h : min n m ≤ 60) (na : D.nb a = true) (nb : D.nb b = true) : eqD a b = some (decide (a = b)) := by
  rw [eqD_eqv ha hb h]
  congr 1
  have := eqv_iff a b na nb
  by_cases e : a = b
  · simp [e] at this ⊢; exact this
  · simp [e] at this ⊢; exact this
/-! the leaves, by simp -/
section
variable {a b : Bool} {i j : Int} {s t : List Nat} {l m : List D}
@[simp] theorem eqD_bb : eqD (.bl a) (.bl b) = some (decide (a = b)) := by cases a <;> cases b <;> rfl
@[simp] theorem eqD_nn : eqD .non .non = some true := rfl
@[simp] theorem eqD_ns : eqD .non (.str t) = some false := rfl
@[simp] theorem eqD_sn : eqD (.str s) .non = some false := rfl
@[simp] theorem eqD_ni : eqD .non (.int i) = some false := rfl
@[simp] theorem eqD_in : eqD (.int i) .non = some false := rfl
@[simp] theorem eqD_si : eqD (.str s) (.int i) = some false := rfl
@[simp] theorem eqD_is : eqD (.int i) (.str s) = some false := rfl
@[simp] theorem isNon_n : isNon (.d .non) = true := rfl
@[simp] theorem isNon_b : isNon (.d (.bl b)) = false := rfl
@[simp] theorem isNon_i : isNon (.d (.int i)) = false := rfl
@[simp] theorem isNon_s : isNon (.d (.str s)) = false := rfl
@[simp] theorem isNon_l : isNon (.d (.lst l)) = false := rfl
@[simp] theorem isNon_t : isNon (.d (.tup l)) = false := rfl
@[simp] theorem isNon_o {c : String} {fs : List (String × D)} : isNon (.d (.ins c fs)) = false := rfl
@[simp] theorem isNon_x {c : String} {fs : List (String × D)} : isNon (.d (.exc c fs)) = false := rfl
@[simp] theorem isNon_c {n : Nat} : isNon (.c n) = false := rfl
end
end Z
namespace Y
open PySem PySem.Spec PyProof.Rows L2 Z
def is_bool : Tg → Option Bool := isG (btB "bool") [] []
@[simp] theorem is_bool_NoneType : is_bool (.b "NoneType") = some false := by decide +kernel
@[simp] theorem is_bool_bool : is_bool (.b "bool") = some true := by decide +kernel
@[simp] theorem is_bool_int : is_bool (.b "int") = some false := by decide +kernel
@[simp] theorem is_bool_str : is_bool (.b "str") = some false := by decide +kernel
@[simp] theorem is_bool_list : is_bool (.b "list") = some false := by decide +kernel
@[simp] theorem is_bool_tuple : is_bool (.b "tuple") = some false := by decide +kernel
@[simp] theorem is_bool_dict : is_bool (.b "dict") = some false := by decide +kernel
def ct : Ct := ⟨[("Kind", []), ("Word", ["text"]), ("Run", ["signs", "least", "most"]), ("Row", ["parts"]), ("Pick", ["parts"]), ("Many", ["part", "between"])], []⟩
@[simp] theorem hf_Word_text : hasF ct.ins "Word" "text" = true := by decide
@[simp] theorem hf_Run_signs : hasF ct.ins "Run" "signs" = true := by decide
@[simp] theorem hf_Run_least : hasF ct.ins "Run" "least" = true := by decide
@[simp] theorem hf_Run_most : hasF ct.ins "Run" "most" = true := by decide
@[simp] theorem hf_Row_parts : hasF ct.ins "Row" "parts" = true := by decide
@[simp] theorem hf_Pick_parts : hasF ct.ins "Pick" "parts" = true := by decide
@[simp] theorem hf_Many_part : hasF ct.ins "Many" "part" = true := by decide
@[simp] theorem hf_Many_between : hasF ct.ins "Many" "between" = true := by decide
/-- _law_mixed: _law_script, _law_k, _law_cell -/
noncomputable def f_L_mixed : Fn := runB 2 3 (sSeq (sSet 2 (fOp2 oIx (fOp2 oAdd (fVar 0) (fLst (fCons (fC (.int 0)) (fNil)))) (fOp2 oMod (fVar 1) (fOpn bMax2 (fCons (fC (.int 1)) (fCons (fOpn bLen (fCons (fVar 0) (fNil))) (fNil))))))) (sRet (fOp2 oMod (fOp2 oMulI (fOp2 oAdd (fOp2 oAdd (fVar 2) (fC (.int 1))) (fOp2 oMulI (fOp2 oMulI (fC (.int 1009)) (fVar 1)) (fVar 1))) (fOp2 oAdd (fC (.int 48271)) (fOp2 oMulI (fC (.int 2)) (fVar 1)))) (fC (.int 2147483647)))))
/-- _law_signs: _law_marks -/
noncomputable def f_L_signs : Fn := runB 0 1 (sSeq (sSet 0 (fC (.str [32, 33, 34, 35, 36, 38, 39, 40, 41, 42, 43, 44, 45, 46, 47, 58, 59, 60, 61, 62, 63, 64, 91, 92, 93, 94, 95, 96, 123, 124, 125, 126, 10]))) (sRet (fOp2 oAdd (fOp2 oAdd (fOp2 oAdd (fVar 0) (fC (.str [48, 49, 50, 51, 52, 53, 54, 55, 56, 57]))) (fC (.str [97, 98, 99, 100, 101, 102, 103, 104, 105, 106, 107, 108, 109, 110, 111, 112, 113, 114, 115, 116, 117, 118, 119, 120, 121, 122]))) (fC (.str [65, 66, 67, 68, 69, 70, 71, 72, 73, 74, 75, 76, 77, 78, 79, 80, 81, 82, 83, 84, 85, 86, 87, 88, 89, 90])))))
/-- _law_run: _law_number, _law_wide, _law_some, _law_first, _law_many, _law_least, _law_signs_here, _law_j -/
noncomputable def f_L_run : Fn := runB 2 8 (sSeq (sSet 2 (fCall f_L_signs [] fNil)) (sSeq (sSet 3 (fOp2 oMod (fVar 0) (fOpn bLen (fCons (fVar 2) (fNil))))) (sSeq (sSet 4 (fOp2 oAdd (fC (.int 1)) (fOp2 oMod (fOp2 oDiv (fVar 0) (fC (.int 96))) (fOp2 oIx (fLst (fCons (fC (.int 1)) (fCons (fC (.int 3)) (fCons (fC (.int 12)) (fCons (fC (.int 60)) (fNil)))))) (fOp2 oMod (fOp2 oDiv (fVar 0) (fC (.int 7))) (fC (.int 4))))))) (sSeq (sSet 5 (fOp2 oMod (fOp2 oDiv (fVar 0) (fC (.int 5760))) (fC (.int 4)))) (sSeq (sSet 6 (fM "str" mJoin (fC (.str [])) (fCons (fFrz (fLcW (fWk (fRng1 (fCons (fVar 4) (fNil)))) [7] (gN 7) (fYes) (fOp2 oIx (fOp2 oAdd (fVar 2) (fVar 2)) (fOp2 oAdd (fVar 3) (fVar 7))))) (fNil)))) (sRet (fTup (fCons (fC (.str [114, 117, 110])) (fCons (fVar 6) (fCons (fVar 5) (fCons (fOp2 oAdd (fOpn bMax2 (fCons (fC (.int 1)) (fCons (fVar 5) (fNil)))) (fOp2 oMod (fOp2 oDiv (fVar 0) (fC (.int 23040))) (fOp2 oIx (fLst (fCons (fC (.int 1)) (fCons (fC (.int 3)) (fCons (fVar 1) (fNil))))) (fOp2 oMod (fOp2 oDiv (fVar 0) (fC (.int 11))) (fC (.int 3)))))) (fNil))))))))))))
/-- _law_turned: _law_number, _law_k -/
noncomputable def f_L_turned : Fn := runB 2 2 (sRet (fOp2 oMod (fOp2 oMulI (fOp2 oAdd (fOp2 oAdd (fVar 0) (fC (.int 1))) (fOp2 oMulI (fOp2 oMulI (fC (.int 5081)) (fVar 1)) (fVar 1))) (fOp2 oIx (fLst (fCons (fC (.int 48271)) (fCons (fC (.int 16807)) (fCons (fC (.int 69621)) (fCons (fC (.int 39373)) (fNil)))))) (fOp2 oMod (fVar 1) (fC (.int 4))))) (fC (.int 2147483647))))
/-- _law_word: _law_number, _law_size, _law_some, _law_j -/
noncomputable def f_L_word : Fn := runB 2 4 (sSeq (sSet 2 (fCall f_L_signs [] fNil)) (sRet (fM "str" mJoin (fC (.str [])) (fCons (fFrz (fLcW (fWk (fRng1 (fCons (fVar 1) (fNil)))) [3] (gN 3) (fYes) (fOp2 oIx (fVar 2) (fOp2 oMod (fCall f_L_turned [] (fCons (fVar 0) (fCons (fOp2 oAdd (fC (.int 40)) (fVar 3)) (fNil)))) (fOpn bLen (fCons (fVar 2) (fNil))))))) (fNil)))))
/-- _law_kind: _law_number, _law_deep, _law_way, _law_more, _law_size, _law_parts, _law_j, _law_part -/
noncomputable def b_L_kind (T : Nat → Fn) : Fn := runB 2 8 (sSeq (sSet 2 (fOp2 oMod (fVar 0) (fC (.int 9)))) (sSeq (sSet 3 (fOp2 oDiv (fVar 0) (fC (.int 9)))) (sSeq (sIf (fOr (fT (fOp2 oLt (fVar 2) (fC (.int 2)))) (fAnd (fT (fOp2 oLt (fVar 1) (fC (.int 1)))) (fT (fOp2 oGt (fVar 2) (fC (.int 3)))))) (sRet (fTup (fCons (fC (.str [119, 111, 114, 100])) (fCons (fCall f_L_word [] (fCons (fOp2 oDiv (fVar 3) (fC (.int 8))) (fCons (fOp2 oIx (fLst (fCons (fC (.int 0)) (fCons (fC (.int 1)) (fCons (fC (.int 2)) (fCons (fC (.int 3)) (fCons (fC (.int 1)) (fCons (fC (.int 2)) (fCons (fC (.int 7)) (fCons (fOp2 oIx (fLst (fCons (fC (.int 4)) (fCons (fC (.int 20)) (fNil)))) (fOpn bInt (fCons (fOp2 oGt (fVar 1) (fC (.int 1))) (fNil)))) (fNil)))))))))) (fOp2 oMod (fVar 3) (fC (.int 8)))) (fNil)))) (fNil))))) (sNil)) (sSeq (sIf (fT (fOp2 oLt (fVar 2) (fC (.int 4)))) (sRet (fCall f_L_run [] (fCons (fVar 3) (fCons (fOp2 oIx (fLst (fCons (fC (.int 3)) (fCons (fC (.int 9)) (fNil)))) (fOpn bInt (fCons (fOp2 oGt (fVar 1) (fC (.int 0))) (fNil)))) (fNil))))) (sNil)) (sSeq (sIf (fT (fOp2 oLt (fVar 2) (fC (.int 7)))) (sSeq (sSet 4 (fOp2 oIx (fLst (fCons (fOp2 oIx (fLst (fCons (fC (.int 0)) (fCons (fC (.int 1)) (fCons (fC (.int 2)) (fCons (fC (.int 3)) (fCons (fC (.int 2)) (fCons (fC (.int 2)) (fNil)))))))) (fOp2 oMod (fVar 3) (fC (.int 6)))) (fCons (fOp2 oAdd (fC (.int 2)) (fOp2 oMod (fVar 3) (fC (.int 2)))) (fNil)))) (fOpn bInt (fCons (fOp2 oEq (fVar 2) (fC (.int 6))) (fNil))))) (sSeq (sSet 4 (fOpn bMin2 (fCons (fVar 4) (fCons (fOp2 oIx (fLst (fCons (fC (.int 3)) (fCons (fC (.int 2)) (fNil)))) (fOpn bInt (fCons (fOp2 oEq (fVar 1) (fC (.int 2))) (fNil)))) (fNil))))) (sSeq (sSet 5 (fFrz (fLcW (fWk (fRng1 (fCons (fVar 4) (fNil)))) [6] (gN 6) (fYes) (fCall (T 0) [] (fCons (fCall f_L_turned [] (fCons (fVar 3) (fCons (fVar 6) (fNil)))) (fCons (fOp2 oSub (fVar 1) (fC (.int 1))) (fNil))))))) (sRet (fTup (fCons (fOp2 oIx (fLst (fCons (fC (.str [114, 111, 119])) (fCons (fC (.str [112, 105, 99, 107])) (fNil)))) (fOpn bInt (fCons (fOp2 oEq (fVar 2) (fC (.int 6))) (fNil)))) (fCons (fVar 5) (fNil)))))))) (sNil)) (sSeq (sSet 7 (fCall (T 0) [] (fCons (fCall f_L_turned [] (fCons (fVar 3) (fCons (fC (.int 1)) (fNil)))) (fCons (fOp2 oSub (fVar 1) (fC (.int 1))) (fNil))))) (sRet (fTup (fCons (fC (.str [109, 97, 110, 121])) (fCons (fVar 7) (fCons (fCall f_L_word [] (fCons (fOp2 oDiv (fVar 3) (fC (.int 6))) (fCons (fOp2 oIx (fLst (fCons (fC (.int 0)) (fCons (fC (.int 1)) (fCons (fC (.int 2)) (fCons (fC (.int 5)) (fCons (fC (.int 1)) (fCons (fC (.int 0)) (fNil)))))))) (fOp2 oMod (fVar 3) (fC (.int 6)))) (fNil)))) (fNil))))))))))))
noncomputable def R_0 : Nat → Nat → Fn
  | 0, _ => fun _ _ => none
  | n + 1, i => match i with
    | 0 => b_L_kind (R_0 n)
    | _ => fun _ _ => none
noncomputable abbrev f_L_kind : Fn := R_0 12 0
/-- _law_tree: _law_kind_here, _law_number, _law_size, _law_j, _law_place, _law_some, _law_one -/
noncomputable def b_L_tree (T : Nat → Fn) : Fn := runB 2 7 (sSeq (sIf (fT (fOp2 oEq (fOp2 oIx (fVar 0) (fC (.int 0))) (fC (.str [119, 111, 114, 100])))) (sRet (fVar 0)) (sNil)) (sSeq (sIf (fT (fOp2 oEq (fOp2 oIx (fVar 0) (fC (.int 0))) (fC (.str [114, 117, 110])))) (sSeq (sSet 2 (fOp2 oAdd (fOp2 oIx (fVar 0) (fC (.int 2))) (fOp2 oMod (fVar 1) (fOp2 oAdd (fOp2 oSub (fOp2 oIx (fVar 0) (fC (.int 3))) (fOp2 oIx (fVar 0) (fC (.int 2)))) (fC (.int 1)))))) (sRet (fTup (fCons (fC (.str [114, 117, 110])) (fCons (fM "str" mJoin (fC (.str [])) (fCons (fFrz (fLcW (fWk (fRng1 (fCons (fVar 2) (fNil)))) [3] (gN 3) (fYes) (fOp2 oIx (fOp2 oIx (fVar 0) (fC (.int 1))) (fOp2 oMod (fCall f_L_turned [] (fCons (fVar 1) (fCons (fVar 3) (fNil)))) (fOpn bLen (fCons (fOp2 oIx (fVar 0) (fC (.int 1))) (fNil))))))) (fNil))) (fNil)))))) (sNil)) (sSeq (sIf (fT (fOp2 oEq (fOp2 oIx (fVar 0) (fC (.int 0))) (fC (.str [112, 105, 99, 107])))) (sSeq (sSet 4 (fOp2 oMod (fVar 1) (fOpn bLen (fCons (fOp2 oIx (fVar 0) (fC (.int 1))) (fNil))))) (sRet (fTup (fCons (fC (.str [112, 105, 99, 107])) (fCons (fVar 4) (fCons (fCall (T 0) [] (fCons (fOp2 oIx (fOp2 oIx (fVar 0) (fC (.int 1))) (fVar 4)) (fCons (fCall f_L_turned [] (fCons (fVar 1) (fCons (fC (.int 2)) (fNil)))) (fNil)))) (fNil))))))) (sNil)) (sSeq (sSet 5 (fOp2 oIx (fVar 0) (fC (.int 1)))) (sSeq (sIf (fT (fOp2 oEq (fOp2 oIx (fVar 0) (fC (.int 0))) (fC (.str [109, 97, 110, 121])))) (sSet 5 (fOp2 oRep (fLstC (fCons (fOp2 oIx (fVar 0) (fC (.int 1))) (fNil))) (fOp2 oMod (fVar 1) (fC (.int 3))))) (sNil)) (sRet (fTup (fCons (fOp2 oIx (fVar 0) (fC (.int 0))) (fCons (fOpn bTuple (fCons (fFrz (fLcW (fEnumM (fCons (fVar 5) (fNil))) [3, 6] (gT (gC (gN 3) (gC (gN 6) (gE)))) (fYes) (fCall (T 0) [] (fCons (fVar 6) (fCons (fCall f_L_turned [] (fCons (fVar 1) (fCons (fVar 3) (fNil)))) (fNil)))))) (fNil))) (fNil))))))))))
noncomputable def R_1 : Nat → Nat → Fn
  | 0, _ => fun _ _ => none
  | n + 1, i => match i with
    | 0 => b_L_tree (R_1 n)
    | _ => fun _ _ => none
noncomputable abbrev f_L_tree : Fn := R_1 12 0
/-- Many.__init__: self, part, between -/
noncomputable def f_Many_init : Fn := runB 3 3 (sSeq (sFld ct "part" (fVar 0) (fVar 1)) (sFld ct "between" (fVar 0) (fVar 2)))
/-- Word.__init__: self, text -/
noncomputable def f_Word_init : Fn := runB 2 2 (sFld ct "text" (fVar 0) (fVar 1))
/-- Run.__init__: self, signs, least, most -/
noncomputable def f_Run_init : Fn := runB 4 4 (sSeq (sFld ct "signs" (fVar 0) (fVar 1)) (sSeq (sFld ct "least" (fVar 0) (fVar 2)) (sFld ct "most" (fVar 0) (fVar 3))))
/-- Row.__init__: self, parts -/
noncomputable def f_Row_init : Fn := runB 2 2 (sSeq (sFld ct "parts" (fVar 0) (fLst (fNil))) (sIf (fT (fOp2 oNotN (fVar 1) (fC .non))) (sFld ct "parts" (fVar 0) (fOpn bList (fCons (fVar 1) (fNil)))) (sNil)))
/-- Pick.__init__: self, parts -/
noncomputable def f_Pick_init : Fn := runB 2 2 (sFld ct "parts" (fVar 0) (fOpn bList (fCons (fVar 1) (fNil))))
/-- _law_built: _law_kind_here, _law_one -/
noncomputable def b_L_built (T : Nat → Fn) : Fn := runB 1 2 (sSeq (sIf (fT (fOp2 oEq (fOp2 oIx (fVar 0) (fC (.int 0))) (fC (.str [119, 111, 114, 100])))) (sRet (fFrz (fMk "Word" f_Word_init [] (fCons (fOp2 oIx (fVar 0) (fC (.int 1))) (fNil))))) (sNil)) (sSeq (sIf (fT (fOp2 oEq (fOp2 oIx (fVar 0) (fC (.int 0))) (fC (.str [114, 117, 110])))) (sRet (fFrz (fMk "Run" f_Run_init [] (fCons (fOp2 oIx (fVar 0) (fC (.int 1))) (fCons (fOp2 oIx (fVar 0) (fC (.int 2))) (fCons (fOp2 oIx (fVar 0) (fC (.int 3))) (fNil))))))) (sNil)) (sSeq (sIf (fT (fOp2 oEq (fOp2 oIx (fVar 0) (fC (.int 0))) (fC (.str [114, 111, 119])))) (sRet (fFrz (fMk "Row" f_Row_init [] (fCons (fFrz (fLcW (fSeqW (fOp2 oIx (fVar 0) (fC (.int 1)))) [1] (gN 1) (fYes) (fCall (T 0) [] (fCons (fVar 1) (fNil))))) (fNil))))) (sNil)) (sSeq (sIf (fT (fOp2 oEq (fOp2 oIx (fVar 0) (fC (.int 0))) (fC (.str [112, 105, 99, 107])))) (sRet (fFrz (fMk "Pick" f_Pick_init [] (fCons (fFrz (fLcW (fSeqW (fOp2 oIx (fVar 0) (fC (.int 1)))) [1] (gN 1) (fYes) (fCall (T 0) [] (fCons (fVar 1) (fNil))))) (fNil))))) (sNil)) (sRet (fFrz (fMk "Many" f_Many_init [] (fCons (fCall (T 0) [] (fCons (fOp2 oIx (fVar 0) (fC (.int 1))) (fNil))) (fCons (fOp2 oIx (fVar 0) (fC (.int 2))) (fNil))))))))))
noncomputable def R_2 : Nat → Nat → Fn
  | 0, _ => fun _ _ => none
  | n + 1, i => match i with
    | 0 => b_L_built (R_2 n)
    | _ => fun _ _ => none
noncomputable abbrev f_L_built : Fn := R_2 12 0
/-- _law_inner: _law_kind_here -/
noncomputable def f_L_inner : Fn := runB 1 1 (sSeq (sIf (fT (fOp2 oIn (fOp2 oIx (fVar 0) (fC (.int 0))) (fTup (fCons (fC (.str [114, 111, 119])) (fCons (fC (.str [112, 105, 99, 107])) (fNil)))))) (sRet (fOpn bList (fCons (fOp2 oIx (fVar 0) (fC (.int 1))) (fNil)))) (sNil)) (sRet (fIf (fT (fOp2 oEq (fOp2 oIx (fVar 0) (fC (.int 0))) (fC (.str [109, 97, 110, 121])))) (fLst (fCons (fOp2 oIx (fVar 0) (fC (.int 1))) (fNil))) (fLst (fNil)))))
/-- _law_fits: _law_kind_here, _law_tree_here, _law_good, _law_sign, _law_one, _law_j -/
noncomputable def b_L_fits (T : Nat → Fn) : Fn := runB 2 6 (sSeq (sIf (fT (fOp2 oNe (fOp2 oIx (fVar 1) (fC (.int 0))) (fOp2 oIx (fVar 0) (fC (.int 0))))) (sRet (fC (.bl false))) (sNil)) (sSeq (sIf (fT (fOp2 oEq (fOp2 oIx (fVar 0) (fC (.int 0))) (fC (.str [119, 111, 114, 100])))) (sRet (fOp2 oEq (fVar 1) (fVar 0))) (sNil)) (sSeq (sIf (fT (fOp2 oEq (fOp2 oIx (fVar 0) (fC (.int 0))) (fC (.str [114, 117, 110])))) (sSeq (sSet 2 (fCh oLe oLe (fOp2 oIx (fVar 0) (fC (.int 2))) (fOpn bLen (fCons (fOp2 oIx (fVar 1) (fC (.int 1))) (fNil))) (fOp2 oIx (fVar 0) (fC (.int 3))))) (sRet (fAndV (fVar 2) (fOp2 oEq (fFrz (fLcW (fSeqW (fOp2 oIx (fVar 1) (fC (.int 1)))) [3] (gN 3) (fT (fOp2 oNotIn (fVar 3) (fOp2 oIx (fVar 0) (fC (.int 1))))) (fVar 3))) (fLst (fNil)))))) (sNil)) (sSeq (sIf (fT (fOp2 oEq (fOp2 oIx (fVar 0) (fC (.int 0))) (fC (.str [112, 105, 99, 107])))) (sRet (fAndV (fCh oLe oLt (fC (.int 0)) (fOp2 oIx (fVar 1) (fC (.int 1))) (fOpn bLen (fCons (fOp2 oIx (fVar 0) (fC (.int 1))) (fNil)))) (fCall (T 0) [] (fCons (fOp2 oIx (fOp2 oIx (fVar 0) (fC (.int 1))) (fOp2 oIx (fVar 1) (fC (.int 1)))) (fCons (fOp2 oIx (fVar 1) (fC (.int 2))) (fNil)))))) (sNil)) (sSeq (sIf (fT (fOp2 oEq (fOp2 oIx (fVar 0) (fC (.int 0))) (fC (.str [109, 97, 110, 121])))) (sRet (fOpn bAll (fCons (fFrz (fLcW (fSeqW (fOp2 oIx (fVar 1) (fC (.int 1)))) [4] (gN 4) (fYes) (fCall (T 0) [] (fCons (fOp2 oIx (fVar 0) (fC (.int 1))) (fCons (fVar 4) (fNil)))))) (fNil)))) (sNil)) (sSeq (sIf (fT (fOp2 oNe (fOpn bLen (fCons (fOp2 oIx (fVar 1) (fC (.int 1))) (fNil))) (fOpn bLen (fCons (fOp2 oIx (fVar 0) (fC (.int 1))) (fNil))))) (sRet (fC (.bl false))) (sNil)) (sRet (fOpn bAll (fCons (fFrz (fLcW (fEnumM (fCons (fOp2 oIx (fVar 1) (fC (.int 1))) (fNil))) [5, 4] (gT (gC (gN 5) (gC (gN 4) (gE)))) (fYes) (fCall (T 0) [] (fCons (fOp2 oIx (fOp2 oIx (fVar 0) (fC (.int 1))) (fVar 5)) (fCons (fVar 4) (fNil)))))) (fNil))))))))))
noncomputable def R_3 : Nat → Nat → Fn
  | 0, _ => fun _ _ => none
  | n + 1, i => match i with
    | 0 => b_L_fits (R_3 n)
    | _ => fun _ _ => none
noncomputable abbrev f_L_fits : Fn := R_3 12 0
/-- _law_odd: _law_tree_here, _law_number, _law_some, _law_sort, _law_own, _law_last -/
noncomputable def f_L_odd : Fn := runB 2 6 (sSeq (sSet 2 (fLst (fCons (fTup (fCons (fC (.str [119, 111, 114, 100])) (fCons (fC (.str [])) (fNil)))) (fCons (fTup (fCons (fC (.str [114, 117, 110])) (fCons (fC (.str [])) (fNil)))) (fCons (fTup (fCons (fC (.str [114, 111, 119])) (fCons (fTup (fNil)) (fNil)))) (fCons (fTup (fCons (fC (.str [109, 97, 110, 121])) (fCons (fTup (fNil)) (fNil)))) (fCons (fTup (fCons (fC (.str [112, 105, 99, 107])) (fCons (fC (.int 0)) (fCons (fTup (fCons (fC (.str [119, 111, 114, 100])) (fCons (fC (.str [])) (fNil)))) (fNil))))) (fCons (fTup (fCons (fC (.str [114, 111, 119])) (fCons (fTup (fCons (fVar 0) (fNil))) (fNil)))) (fNil))))))))) (sSeq (sAsg (gT (gC (gN 3) (gC (gN 4) (gE)))) (fSlA (fVar 0) fNo (fPt (fC (.int 2))))) (sSeq (sIf (fT (fOp2 oEq (fVar 3) (fC (.str [112, 105, 99, 107])))) (sSeq (sSet 5 (fOp2 oIx (fVar 0) (fC (.int 2)))) (sSet 2 (fOp2 oAddA (fVar 2) (fLst (fCons (fTup (fCons (fC (.str [112, 105, 99, 107])) (fCons (fOp2 oAddA (fVar 4) (fC (.int 1))) (fCons (fVar 5) (fNil))))) (fCons (fTup (fCons (fC (.str [112, 105, 99, 107])) (fCons (fOp1 oNeg (fC (.int 1))) (fCons (fVar 5) (fNil))))) (fCons (fTup (fCons (fC (.str [112, 105, 99, 107])) (fCons (fC (.int 9)) (fCons (fVar 5) (fNil))))) (fCons (fVar 5) (fNil))))))))) (sIf (fT (fOp2 oIn (fVar 3) (fTup (fCons (fC (.str [114, 111, 119])) (fCons (fC (.str [109, 97, 110, 121])) (fNil)))))) (sSeq (sSet 2 (fOp2 oAddA (fVar 2) (fLst (fCons (fTup (fCons (fVar 3) (fCons (fOp2 oAddA (fVar 4) (fTup (fCons (fTup (fCons (fC (.str [119, 111, 114, 100])) (fCons (fC (.str [97])) (fNil)))) (fNil)))) (fNil)))) (fCons (fTup (fCons (fVar 3) (fCons (fSlA (fVar 4) (fPt (fC (.int 1))) fNo) (fNil)))) (fCons (fTup (fCons (fVar 3) (fCons (fRevA (fVar 4)) (fNil)))) (fNil))))))) (sSet 2 (fOp2 oAddA (fVar 2) (fLst (fCons (fTup (fCons (fC (.str [114, 111, 119])) (fCons (fVar 4) (fNil)))) (fCons (fTup (fCons (fC (.str [109, 97, 110, 121])) (fCons (fVar 4) (fNil)))) (fCons (fTup (fCons (fVar 3) (fCons (fOp2 oAddA (fVar 4) (fSlA (fVar 4) fNo (fPt (fC (.int 1))))) (fNil)))) (fNil)))))))) (sSet 2 (fOp2 oAddA (fVar 2) (fLst (fCons (fTup (fCons (fVar 3) (fCons (fOp2 oAddA (fVar 4) (fC (.str [97]))) (fNil)))) (fCons (fTup (fCons (fVar 3) (fCons (fSlA (fVar 4) (fPt (fC (.int 1))) fNo) (fNil)))) (fCons (fTup (fCons (fC (.str [119, 111, 114, 100])) (fCons (fVar 4) (fNil)))) (fCons (fTup (fCons (fC (.str [114, 117, 110])) (fCons (fVar 4) (fNil)))) (fNil)))))))))) (sRet (fOp2 oIx (fVar 2) (fOp2 oMod (fVar 1) (fOpn bLen (fCons (fVar 2) (fNil)))))))))
/-- _law_spoilt: _law_tree_here, _law_number, _law_at, _law_inner_here -/
noncomputable def b_L_spoilt (T : Nat → Fn) : Fn := runB 2 4 (sSeq (sIf (fOr (fT (fOp2 oEq (fOp2 oMod (fVar 1) (fC (.int 3))) (fC (.int 0)))) (fOr (fT (fOp2 oIn (fOp2 oIx (fVar 0) (fC (.int 0))) (fTup (fCons (fC (.str [119, 111, 114, 100])) (fCons (fC (.str [114, 117, 110])) (fNil)))))) (fT (fOp2 oEq (fOp2 oIx (fVar 0) (fC (.int 1))) (fTup (fNil)))))) (sRet (fCall f_L_odd [] (fCons (fVar 0) (fCons (fOp2 oDiv (fVar 1) (fC (.int 3))) (fNil))))) (sNil)) (sSeq (sIf (fT (fOp2 oEq (fOp2 oIx (fVar 0) (fC (.int 0))) (fC (.str [112, 105, 99, 107])))) (sRet (fTup (fCons (fC (.str [112, 105, 99, 107])) (fCons (fOp2 oIx (fVar 0) (fC (.int 1))) (fCons (fCall (T 0) [] (fCons (fOp2 oIx (fVar 0) (fC (.int 2))) (fCons (fOp2 oDiv (fVar 1) (fC (.int 3))) (fNil)))) (fNil)))))) (sNil)) (sSeq (sSet 2 (fOp2 oMod (fOp2 oDiv (fVar 1) (fC (.int 3))) (fOpn bLen (fCons (fOp2 oIx (fVar 0) (fC (.int 1))) (fNil))))) (sSeq (sSet 3 (fCall (T 0) [] (fCons (fOp2 oIx (fOp2 oIx (fVar 0) (fC (.int 1))) (fVar 2)) (fCons (fOp2 oDiv (fVar 1) (fC (.int 12))) (fNil))))) (sRet (fTup (fCons (fOp2 oIx (fVar 0) (fC (.int 0))) (fCons (fOp2 oAddA (fOp2 oAddA (fSlA (fOp2 oIx (fVar 0) (fC (.int 1))) fNo (fPt (fVar 2))) (fTup (fCons (fVar 3) (fNil)))) (fSlA (fOp2 oIx (fVar 0) (fC (.int 1))) (fPt (fOp2 oAddA (fVar 2) (fC (.int 1)))) fNo)) (fNil)))))))))
noncomputable def R_4 : Nat → Nat → Fn
  | 0, _ => fun _ _ => none
  | n + 1, i => match i with
    | 0 => b_L_spoilt (R_4 n)
    | _ => fun _ _ => none
noncomputable abbrev f_L_spoilt : Fn := R_4 12 0
/-- Kind.fits: self, tree -/
noncomputable def f_Kind_fits : Fn := runB 2 2 (sRet (fC (.bl false)))
/-- Word.fits: self, tree -/
noncomputable def f_Word_fits : Fn := runB 2 2 (sRet (fOp2 oEq (fVar 1) (fTup (fCons (fC (.str [119, 111, 114, 100])) (fCons (fFld ct "text" (fVar 0)) (fNil))))))
/-- Run.fits: self, tree, sign -/
noncomputable def f_Run_fits : Fn := runB 2 3 (sSeq (sIf (fOr (fT (fOp2 oNe (fOp2 oIx (fVar 1) (fC (.int 0))) (fC (.str [114, 117, 110])))) (fNot (fT (fCh oLe oLe (fFld ct "least" (fVar 0)) (fOpn bLen (fCons (fOp2 oIx (fVar 1) (fC (.int 1))) (fNil))) (fFld ct "most" (fVar 0)))))) (sRet (fC (.bl false))) (sNil)) (sRet (fOpn bAll (fCons (fFrz (fLcW (fSeqW (fOp2 oIx (fVar 1) (fC (.int 1)))) [2] (gN 2) (fYes) (fOp2 oIn (fVar 2) (fFld ct "signs" (fVar 0))))) (fNil)))))
/-- Row.fits: self, tree, one, part -/
noncomputable def b_Row_fits (T : Nat → Fn) : Fn := runB 2 4 (sSeq (sIf (fOr (fT (fOp2 oNe (fOp2 oIx (fVar 1) (fC (.int 0))) (fC (.str [114, 111, 119])))) (fT (fOp2 oNe (fOpn bLen (fCons (fOp2 oIx (fVar 1) (fC (.int 1))) (fNil))) (fOpn bLen (fCons (fFld ct "parts" (fVar 0)) (fNil)))))) (sRet (fC (.bl false))) (sNil)) (sRet (fOpn bAll (fCons (fFrz (fLcW (fZipM (fCons (fFld ct "parts" (fVar 0)) (fCons (fOp2 oIx (fVar 1) (fC (.int 1))) (fNil)))) [3, 2] (gT (gC (gN 3) (gC (gN 2) (gE)))) (fYes) (fMeth "fits" [("Kind", f_Kind_fits, []), ("Word", f_Word_fits, []), ("Run", f_Run_fits, []), ("Row", (T 0), []), ("Pick", (T 1), []), ("Many", (T 2), [])] (fVar 3) (fCons (fVar 2) (fNil))))) (fNil)))))
/-- Pick.fits: self, tree -/
noncomputable def b_Pick_fits (T : Nat → Fn) : Fn := runB 2 2 (sSeq (sIf (fOr (fT (fOp2 oNe (fOp2 oIx (fVar 1) (fC (.int 0))) (fC (.str [112, 105, 99, 107])))) (fNot (fT (fCh oLe oLt (fC (.int 0)) (fOp2 oIx (fVar 1) (fC (.int 1))) (fOpn bLen (fCons (fFld ct "parts" (fVar 0)) (fNil))))))) (sRet (fC (.bl false))) (sNil)) (sRet (fMeth "fits" [("Kind", f_Kind_fits, []), ("Word", f_Word_fits, []), ("Run", f_Run_fits, []), ("Row", (T 0), []), ("Pick", (T 1), []), ("Many", (T 2), [])] (fOp2 oIx (fFld ct "parts" (fVar 0)) (fOp2 oIx (fVar 1) (fC (.int 1)))) (fCons (fOp2 oIx (fVar 1) (fC (.int 2))) (fNil)))))
/-- Many.fits: self, tree, one -/
noncomputable def b_Many_fits (T : Nat → Fn) : Fn := runB 2 3 (sRet (fAndV (fOp2 oEq (fOp2 oIx (fVar 1) (fC (.int 0))) (fC (.str [109, 97, 110, 121]))) (fOpn bAll (fCons (fFrz (fLcW (fSeqW (fOp2 oIx (fVar 1) (fC (.int 1)))) [2] (gN 2) (fYes) (fMeth "fits" [("Kind", f_Kind_fits, []), ("Word", f_Word_fits, []), ("Run", f_Run_fits, []), ("Row", (T 0), []), ("Pick", (T 1), []), ("Many", (T 2), [])] (fFld ct "part" (fVar 0)) (fCons (fVar 2) (fNil))))) (fNil)))))
noncomputable def R_5 : Nat → Nat → Fn
  | 0, _ => fun _ _ => none
  | n + 1, i => match i with
    | 0 => b_Row_fits (R_5 n)
    | 1 => b_Pick_fits (R_5 n)
    | 2 => b_Many_fits (R_5 n)
    | _ => fun _ _ => none
noncomputable abbrev f_Row_fits : Fn := R_5 12 0
noncomputable abbrev f_Pick_fits : Fn := R_5 12 1
noncomputable abbrev f_Many_fits : Fn := R_5 12 2
/-- _law_told: _law_kind_here, _law_tree_here, _law_one, _law_j -/
noncomputable def b_L_told (T : Nat → Fn) : Fn := runB 2 4 (sSeq (sIf (fT (fOp2 oIn (fOp2 oIx (fVar 0) (fC (.int 0))) (fTup (fCons (fC (.str [119, 111, 114, 100])) (fCons (fC (.str [114, 117, 110])) (fNil)))))) (sRet (fOp2 oIx (fVar 1) (fC (.int 1)))) (sNil)) (sSeq (sIf (fT (fOp2 oEq (fOp2 oIx (fVar 0) (fC (.int 0))) (fC (.str [112, 105, 99, 107])))) (sRet (fCall (T 0) [] (fCons (fOp2 oIx (fOp2 oIx (fVar 0) (fC (.int 1))) (fOp2 oIx (fVar 1) (fC (.int 1)))) (fCons (fOp2 oIx (fVar 1) (fC (.int 2))) (fNil))))) (sNil)) (sSeq (sIf (fT (fOp2 oEq (fOp2 oIx (fVar 0) (fC (.int 0))) (fC (.str [109, 97, 110, 121])))) (sRet (fM "str" mJoin (fOp2 oIx (fVar 0) (fC (.int 2))) (fCons (fFrz (fLcW (fSeqW (fOp2 oIx (fVar 1) (fC (.int 1)))) [2] (gN 2) (fYes) (fCall (T 0) [] (fCons (fOp2 oIx (fVar 0) (fC (.int 1))) (fCons (fVar 2) (fNil)))))) (fNil)))) (sNil)) (sRet (fM "str" mJoin (fC (.str [])) (fCons (fFrz (fLcW (fEnumM (fCons (fOp2 oIx (fVar 1) (fC (.int 1))) (fNil))) [3, 2] (gT (gC (gN 3) (gC (gN 2) (gE)))) (fYes) (fCall (T 0) [] (fCons (fOp2 oIx (fOp2 oIx (fVar 0) (fC (.int 1))) (fVar 3)) (fCons (fVar 2) (fNil)))))) (fNil)))))))
noncomputable def R_6 : Nat → Nat → Fn
  | 0, _ => fun _ _ => none
  | n + 1, i => match i with
    | 0 => b_L_told (R_6 n)
    | _ => fun _ _ => none
noncomputable abbrev f_L_told : Fn := R_6 12 0
/-- Kind.told: self, tree -/
noncomputable def f_Kind_told : Fn := runB 2 2 (sRet (fC (.str [])))
/-- Word.told: self, tree -/
noncomputable def f_Word_told : Fn := runB 2 2 (sRet (fFld ct "text" (fVar 0)))
/-- Run.told: self, tree -/
noncomputable def f_Run_told : Fn := runB 2 2 (sRet (fOp2 oIx (fVar 1) (fC (.int 1))))
/-- Row.told: self, tree, one, part -/
noncomputable def b_Row_told (T : Nat → Fn) : Fn := runB 2 4 (sRet (fM "str" mJoin (fC (.str [])) (fCons (fFrz (fLcW (fZipM (fCons (fFld ct "parts" (fVar 0)) (fCons (fOp2 oIx (fVar 1) (fC (.int 1))) (fNil)))) [3, 2] (gT (gC (gN 3) (gC (gN 2) (gE)))) (fYes) (fMeth "told" [("Kind", f_Kind_told, []), ("Word", f_Word_told, []), ("Run", f_Run_told, []), ("Row", (T 0), []), ("Pick", (T 1), []), ("Many", (T 2), [])] (fVar 3) (fCons (fVar 2) (fNil))))) (fNil))))
/-- Pick.told: self, tree -/
noncomputable def b_Pick_told (T : Nat → Fn) : Fn := runB 2 2 (sRet (fMeth "told" [("Kind", f_Kind_told, []), ("Word", f_Word_told, []), ("Run", f_Run_told, []), ("Row", (T 0), []), ("Pick", (T 1), []), ("Many", (T 2), [])] (fOp2 oIx (fFld ct "parts" (fVar 0)) (fOp2 oIx (fVar 1) (fC (.int 1)))) (fCons (fOp2 oIx (fVar 1) (fC (.int 2))) (fNil))))
/-- Many.told: self, tree, one -/
noncomputable def b_Many_told (T : Nat → Fn) : Fn := runB 2 3 (sRet (fM "str" mJoin (fFld ct "between" (fVar 0)) (fCons (fFrz (fLcW (fSeqW (fOp2 oIx (fVar 1) (fC (.int 1)))) [2] (gN 2) (fYes) (fMeth "told" [("Kind", f_Kind_told, []), ("Word", f_Word_told, []), ("Run", f_Run_told, []), ("Row", (T 0), []), ("Pick", (T 1), []), ("Many", (T 2), [])] (fFld ct "part" (fVar 0)) (fCons (fVar 2) (fNil))))) (fNil))))
noncomputable def R_7 : Nat → Nat → Fn
  | 0, _ => fun _ _ => none
  | n + 1, i => match i with
    | 0 => b_Row_told (R_7 n)
    | 1 => b_Pick_told (R_7 n)
    | 2 => b_Many_told (R_7 n)
    | _ => fun _ _ => none
noncomputable abbrev f_Row_told : Fn := R_7 12 0
noncomputable abbrev f_Pick_told : Fn := R_7 12 1
noncomputable abbrev f_Many_told : Fn := R_7 12 2
/-- _law_is_so: _law_found, _law_kind_here, _law_tree_here, _law_due, _law_word_here, _law_text -/
noncomputable def f_L_is_so : Fn := runB 3 6 (sSeq (sSet 3 (fCall f_L_fits [] (fCons (fVar 1) (fCons (fVar 2) (fNil))))) (sSeq (sSet 4 (fMeth "fits" [("Kind", f_Kind_fits, []), ("Word", f_Word_fits, []), ("Run", f_Run_fits, []), ("Row", f_Row_fits, []), ("Pick", f_Pick_fits, []), ("Many", f_Many_fits, [])] (fVar 0) (fCons (fVar 2) (fNil)))) (sSeq (sIf (fOr (fNot (fT (fIsi is_bool (fVar 4)))) (fOr (fT (fOp2 oNe (fVar 4) (fVar 3))) (fT (fOp2 oNe (fMeth "fits" [("Kind", f_Kind_fits, []), ("Word", f_Word_fits, []), ("Run", f_Run_fits, []), ("Row", f_Row_fits, []), ("Pick", f_Pick_fits, []), ("Many", f_Many_fits, [])] (fVar 0) (fCons (fVar 2) (fNil))) (fVar 3))))) (sRet (fC (.bl false))) (sNil)) (sSeq (sIf (fNot (fT (fVar 3))) (sRet (fC (.bl true))) (sNil)) (sSeq (sSet 5 (fCall f_L_told [] (fCons (fVar 1) (fCons (fVar 2) (fNil))))) (sRet (fOp2 oEq (fLst (fCons (fMeth "told" [("Kind", f_Kind_told, []), ("Word", f_Word_told, []), ("Run", f_Run_told, []), ("Row", f_Row_told, []), ("Pick", f_Pick_told, []), ("Many", f_Many_told, [])] (fVar 0) (fCons (fVar 2) (fNil))) (fCons (fMeth "told" [("Kind", f_Kind_told, []), ("Word", f_Word_told, []), ("Run", f_Run_told, []), ("Row", f_Row_told, []), ("Pick", f_Pick_told, []), ("Many", f_Many_told, [])] (fVar 0) (fCons (fVar 2) (fNil))) (fNil)))) (fLst (fCons (fVar 5) (fCons (fVar 5) (fNil)))))))))))
/-- law: _law_script, _law_k, _law_number, _law_kind_here, _law_tree_here, _law_found, _law_j, _law_good, _law_one, _law_inner_here, _law_other -/
noncomputable def f_law : Fn := runB 1 11 (sSeq (sForW (fWk (fRng1 (fCons (fOpn bMax2 (fCons (fC (.int 1)) (fCons (fOpn bLen (fCons (fVar 0) (fNil))) (fNil)))) (fNil)))) (gN 1) (sSeq (sSet 2 (fCall f_L_mixed [] (fCons (fVar 0) (fCons (fVar 1) (fNil))))) (sSeq (sSet 3 (fCall f_L_kind [] (fCons (fVar 2) (fCons (fOp2 oIx (fLst (fCons (fC (.int 2)) (fCons (fC (.int 3)) (fCons (fC (.int 1)) (fCons (fC (.int 2)) (fNil)))))) (fOp2 oMod (fOp2 oDiv (fVar 2) (fC (.int 9))) (fC (.int 4)))) (fNil))))) (sSeq (sSet 4 (fCall f_L_tree [] (fCons (fVar 3) (fCons (fCall f_L_turned [] (fCons (fVar 2) (fCons (fC (.int 3)) (fNil)))) (fNil))))) (sSeq (sSet 5 (fCall f_L_built [] (fCons (fVar 3) (fNil)))) (sSeq (sIf (fNot (fT (fCall f_L_fits [] (fCons (fVar 3) (fCons (fVar 4) (fNil)))))) (sRet (fC (.bl false))) (sNil)) (sSeq (sForW (fWk (fRng1 (fCons (fC (.int 4)) (fNil)))) (gN 6) (sSeq (sIf (fNot (fT (fCall f_L_is_so [] (fCons (fVar 5) (fCons (fVar 3) (fCons (fVar 4) (fNil))))))) (sRet (fC (.bl false))) (sNil)) (sSeq (sSet 7 (fCall f_L_tree [] (fCons (fVar 3) (fCons (fCall f_L_turned [] (fCons (fVar 2) (fCons (fC (.int 3)) (fNil)))) (fNil))))) (sSet 4 (fCall f_L_spoilt [] (fCons (fVar 7) (fCons (fCall f_L_turned [] (fCons (fVar 2) (fCons (fOp2 oAdd (fC (.int 4)) (fVar 6)) (fNil)))) (fNil)))))))) (sForW (fSeqW (fCall f_L_inner [] (fCons (fVar 3) (fNil)))) (gN 8) (sSeq (sSet 9 (fCall f_L_tree [] (fCons (fVar 8) (fCons (fVar 2) (fNil))))) (sSeq (sSet 10 (fCall f_L_built [] (fCons (fVar 8) (fNil)))) (sIf (fOr (fNot (fT (fCall f_L_is_so [] (fCons (fVar 10) (fCons (fVar 8) (fCons (fVar 9) (fNil))))))) (fNot (fT (fCall f_L_is_so [] (fCons (fVar 10) (fCons (fVar 8) (fCons (fVar 4) (fNil)))))))) (sRet (fC (.bl false))) (sNil)))))))))))) (sRet (fC (.bl true))))
end Y
namespace Y
open PySem PySem.Spec PyProof.Rows L2 Z
/-! ## kinds and their trees: the law's own tuples, the program's things -/
abbrev wordN : List Nat := [119, 111, 114, 100]
abbrev runN : List Nat := [114, 117, 110]
abbrev rowN : List Nat := [114, 111, 119]
abbrev pickN : List Nat := [112, 105, 99, 107]
abbrev manyN : List Nat := [109, 97, 110, 121]
inductive IsK : Nat → D → D → Prop
  | word {n : Nat} (t : List Nat) : t.length ≤ 20 → IsK n (.tup [.str wordN, .str t]) (.ins "Word" [("text", .str t)])
  | run {n : Nat} (s : List Nat) (lo hi : Nat) : s ≠ [] → s.length ≤ 60 → lo ≤ hi → hi ≤ 12 → IsK n (.tup [.str runN, .str s, .int lo, .int hi]) (.ins "Run" [("signs", .str s), ("least", .int lo), ("most", .int hi)])
  | row {n : Nat} (ks os : List D) : ks.length = os.length → ks.length ≤ 3 → (∀ (i : Nat) (k o : D), ks[i]? = some k → os[i]? = some o → IsK n k o) → IsK (n + 1) (.tup [.str rowN, .lst ks]) (.ins "Row" [("parts", .lst os)])
  | pick {n : Nat} (ks os : List D) : ks.length = os.length → ks.length ≤ 3 → ks ≠ [] → (∀ (i : Nat) (k o : D), ks[i]? = some k → os[i]? = some o → IsK n k o) → IsK (n + 1) (.tup [.str pickN, .lst ks]) (.ins "Pick" [("parts", .lst os)])
  | many {n : Nat} (k o : D) (b : List Nat) : b.length ≤ 5 → IsK n k o → IsK (n + 1) (.tup [.str manyN, k, .str b]) (.ins "Many" [("part", o), ("between", .str b)])
inductive IsT (c : Nat) : Nat → D → Prop
  | word {n : Nat} (t : List Nat) : t.length ≤ 20 + c → IsT c n (.tup [.str wordN, .str t])
  | run {n : Nat} (t : List Nat) : t.length ≤ 20 + c → IsT c n (.tup [.str runN, .str t])
  | row {n : Nat} (ts : List D) : ts.length ≤ c → (∀ t ∈ ts, IsT c n t) → IsT c (n + 1) (.tup [.str rowN, .tup ts])
  | many {n : Nat} (ts : List D) : ts.length ≤ c → (∀ t ∈ ts, IsT c n t) → IsT c (n + 1) (.tup [.str manyN, .tup ts])
  | pick {n : Nat} (i : Int) (t : D) : -2 ≤ i → i ≤ 16 + (c : Int) → IsT c n t → IsT c (n + 1) (.tup [.str pickN, .int i, t])
theorem IsT.mono {c n : Nat} {t : D} (h : IsT c n t) : ∀ {c' n' : Nat}, c ≤ c' → n ≤ n' → IsT c' n' t := by
  induction h with
  | word t h => intro c' n' hc hn; exact .word t (by omega)
  | run t h => intro c' n' hc hn; exact .run t (by omega)
  | row ts h _ ih =>
    intro c' n' hc hn
    obtain ⟨m, rfl⟩ : ∃ m, n' = m + 1 := ⟨n' - 1, by omega⟩
    exact .row ts (by omega) fun t ht => ih t ht hc (by omega)
  | many ts h _ ih =>
    intro c' n' hc hn
    obtain ⟨m, rfl⟩ : ∃ m, n' = m + 1 := ⟨n' - 1, by omega⟩
    exact .many ts (by omega) fun t ht => ih t ht hc (by omega)
  | pick i t h1 h2 _ ih =>
    intro c' n' hc hn
    obtain ⟨m, rfl⟩ : ∃ m, n' = m + 1 := ⟨n' - 1, by omega⟩
    exact .pick i t h1 (by omega) (ih hc (by omega))
/-! ### lists by their places -/
theorem enI_rg (ts : List D) : enI 0 ts = (List.range ts.length).map fun (i : Nat) => Sv.d (.tup [.int i, ts.getD i .non]) := by
  apply List.ext_getElem?
  intro i
  by_cases h : i < ts.length
  · have h1 : i < (enI 0 ts).length := by simpa using h
    obtain ⟨y, hy, e⟩ := enI_at (List.getElem?_eq_getElem h1)
    rw [List.getElem?_eq_getElem h1, e, List.getElem?_map, List.getElem?_range h]
    simp [List.getD, hy]
  · rw [List.getElem?_eq_none (by simpa using h), List.getElem?_eq_none (by simpa using h)]
theorem zipI_rg (os ts : List D) (h : os.length = ts.length) : zipI os ts = (List.range ts.length).map fun (i : Nat) => Sv.d (.tup [os.getD i .non, ts.getD i .non]) := by
  apply List.ext_getElem?
  intro i
  rw [zipI_get]
  by_cases hi : i < ts.length
  · rw [List.getElem?_map, List.getElem?_range hi, List.getElem?_eq_getElem hi, List.getElem?_eq_getElem (show i < os.length by omega)]
    simp [List.getD, hi, show i < os.length by omega]
  · rw [List.getElem?_eq_none (show os.length ≤ i by omega), List.getElem?_eq_none (l := (List.range ts.length).map _) (by simp; omega)]; rfl
theorem seq_rg (ts : List D) : ts.map Sv.d = (List.range ts.length).map fun (i : Nat) => Sv.d (ts.getD i .non) := by
  apply List.ext_getElem?
  intro i
  by_cases hi : i < ts.length
  · rw [List.getElem?_map, List.getElem?_map, List.getElem?_range hi, List.getElem?_eq_getElem hi]
    simp [List.getD, hi]
  · rw [List.getElem?_eq_none (by simpa using hi), List.getElem?_eq_none (by simpa using hi)]
theorem choose_rg {α : Type} [Inhabited α] {n : Nat} {P : Nat → α → Prop} (h : ∀ i, i < n → ∃ b, P i b) : ∃ g : Nat → α, ∀ i, i < n → P i (g i) := by
  classical
  refine ⟨fun i => if hi : i < n then Classical.choose (h i hi) else default, fun i hi => ?_⟩
  simp only [hi, dif_pos]
  exact Classical.choose_spec (h i hi)
theorem bAll_g (n : Nat) (g : Nat → Bool) (μ : Mu) : bAll [.d (.lst ((List.range n).map fun i => D.bl (g i)))] μ = okz (.bl ((List.range n).all g)) μ := by
  have := bAll_l (μ := μ) ((List.range n).map g)
  rw [List.map_map, List.all_map] at this
  exact this
theorem sum_le (L : Nat) : ∀ (l : List Nat), (∀ x ∈ l, x ≤ L) → l.sum ≤ l.length * L
  | [], _ => by simp
  | x :: r, h => by
    have := sum_le L r fun y hy => h y (by simp [hy])
    have := h x (by simp)
    simp only [List.sum_cons, List.length_cons, Nat.add_mul, Nat.one_mul]; omega
theorem joinL_len (sep : List Nat) : ∀ l : List (List Nat), (joinL sep l).length ≤ (l.map List.length).sum + l.length * sep.length
  | [] => by simp [joinL]
  | [x] => by simp [joinL]
  | x :: y :: r => by
    have := joinL_len sep (y :: r)
    simp only [joinL, List.length_append, List.map_cons, List.sum_cons, List.length_cons, Nat.add_mul, Nat.one_mul] at *
    omega
theorem mJoin_g (n L : Nat) (sep : List Nat) (s : Nat → List Nat) (h : ∀ i, i < n → (s i).length ≤ L) (hb : n * L + n * sep.length ≤ 16777216) (μ : Mu) : mJoin (.d (.str sep)) [.d (.lst ((List.range n).map fun i => D.str (s i)))] μ = okz (.str (joinL sep ((List.range n).map s))) μ ∧ (joinL sep ((List.range n).map s)).length ≤ n * L + n * sep.length := by
  have h1 := mJoin_s sep ((List.range n).map s) μ
  have h2 : (((List.range n).map s).map List.length).sum ≤ n * L := by
    have := sum_le L (((List.range n).map s).map List.length) (by
      intro x hx
      simp at hx
      obtain ⟨i, hi, rfl⟩ := hx
      exact h i hi)
    simpa using this
  have h3 := joinL_len sep ((List.range n).map s)
  rw [List.map_map] at h1
  simp only [List.length_map, List.length_range] at h1 h3
  refine ⟨?_, by omega⟩
  rw [if_pos (by omega)] at h1
  exact h1
theorem all_rg {n : Nat} {g : Nat → Bool} : (List.range n).all g = true ↔ ∀ i, i < n → g i = true := by simp
/-! ### == of trees -/
mutual
theorem okS : ∀ (n : Nat) (d : D), D.ok n d = true → D.ok (n + 1) d = true
  | n, .non, h => by cases n <;> rfl
  | n, .bl _, h => by cases n <;> rfl
  | n, .int _, h => by cases n <;> rfl
  | n, .str _, h => by cases n <;> rfl
  | 0, .lst _, h => by simp [D.ok] at h
  | 0, .tup _, h => by simp [D.ok] at h
  | n + 1, .lst l, h => by
    simp only [D.ok] at h ⊢
    exact okLS n l h
  | n + 1, .tup l, h => by
    simp only [D.ok] at h ⊢
    exact okLS n l h
  | n, .ins _ _, h => by cases n <;> simp [D.ok] at h
  | n, .exc _ _, h => by cases n <;> simp [D.ok] at h
theorem okLS : ∀ (n : Nat) (l : List D), D.okL n l = true → D.okL (n + 1) l = true
  | n, [], h => by simp [D.okL]
  | n, x :: r, h => by
    simp only [D.okL, Bool.and_eq_true] at h ⊢
    exact ⟨okS n x h.1, okLS n r h.2⟩
end
theorem IsT.ok {c m : Nat} {t : D} (h : IsT c m t) : D.ok (2 * m + 1) t = true := by
  induction h with
  | word t _ => simp [D.ok, D.okL]
  | run t _ => simp [D.ok, D.okL]
  | @row m ts _ _ ih =>
    show D.okL (2 * m + 2) [.str rowN, .tup ts] = true
    simp only [D.okL, D.ok, Bool.true_and, Bool.and_true]
    exact okL_of fun x hx => ih x hx
  | @many m ts _ _ ih =>
    show D.okL (2 * m + 2) [.str manyN, .tup ts] = true
    simp only [D.okL, D.ok, Bool.true_and, Bool.and_true]
    exact okL_of fun x hx => ih x hx
  | @pick m i t _ _ _ ih =>
    show D.okL (2 * m + 2) [.str pickN, .int i, t] = true
    simp only [D.okL, D.ok, Bool.true_and, Bool.and_true]
    exact okS _ _ ih
theorem eqD_t2 (a x b y : List Nat) : eqD (.tup [.str a, .str x]) (.tup [.str b, .str y]) = some (decide (a = b) && decide (x = y)) := by
  show some (PyData.eqvAll [.str ⟨a.toArray⟩, .str ⟨x.toArray⟩] [.str ⟨b.toArray⟩, .str ⟨y.toArray⟩]) = _
  simp only [PyData.eqvAll, PyData.eqv, Bool.and_true]
  have h1 : ((⟨a.toArray⟩ : Str) == ⟨b.toArray⟩) = decide (a = b) := str_dec ..
  have h2 : ((⟨x.toArray⟩ : Str) == ⟨y.toArray⟩) = decide (x = y) := str_dec ..
  rw [h1, h2]
theorem eqD_tag {n : Nat} {l : List D} (h : D.okL n l = true) {a b y : List Nat} (hab : a ≠ b) : eqD (.tup (.str a :: l)) (.tup [.str b, .str y]) = some false := by
  obtain ⟨ps, e, _⟩ := okL_py n l h
  simp only [eqD, D.py, D.py.pys, e, Option.map_some, Option.bind_some]
  have hd : (PyData.tuple [.str ⟨b.toArray⟩, .str ⟨y.toArray⟩]).depth = 1 := rfl
  rw [if_pos (by rw [hd]; omega)]
  have h1 : ((⟨a.toArray⟩ : Str) == ⟨b.toArray⟩) = decide (a = b) := str_dec ..
  simp only [PyData.eqvAll, PyData.eqv, h1, hab]; rfl
theorem eqD_tnil {n : Nat} {l : List D} (h : D.okL n l = true) : eqD (.tup l) (.tup []) = some (decide (l = [])) := by
  obtain ⟨ps, e, _⟩ := okL_py n l h
  simp only [eqD, D.py, e, Option.map_some, Option.bind_some, D.py.pys]
  have hd : (PyData.tuple ([] : List PyData)).depth = 1 := rfl
  rw [if_pos (by rw [hd]; omega)]
  cases l with
  | nil => simp only [D.py.pys] at e; cases e; rfl
  | cons x r =>
    cases ps with
    | nil =>
      exfalso
      simp only [D.py.pys] at e
      cases hx : x.py <;> rw [hx] at e <;> simp at e
    | cons p q => rfl
theorem eqD_lnil {n : Nat} {l : List D} (h : D.okL n l = true) : eqD (.lst l) (.lst []) = some (decide (l = [])) := by
  obtain ⟨ps, e, _⟩ := okL_py n l h
  simp only [eqD, D.py, e, Option.map_some, Option.bind_some, D.py.pys]
  have hd : (PyData.list ([] : List PyData)).depth = 1 := rfl
  rw [if_pos (by rw [hd]; omega)]
  cases l with
  | nil => simp only [D.py.pys] at e; cases e; rfl
  | cons x r =>
    cases ps with
    | nil =>
      exfalso
      simp only [D.py.pys] at e
      cases hx : x.py <;> rw [hx] at e <;> simp at e
    | cons p q => rfl
section
variable {P : Except Exn Sv → Mu → Prop} {μ : Mu}
@[simp] theorem Ev_oIn (a b : D) : Ev (oIn (.d a) (.d b) μ) P = eqc (inD a b) fun r => P (.ok (.d (.bl r))) μ := by
  simp only [oIn, dV_d]
  cases inD a b <;> simp [eqc]
@[simp] theorem Ev_oNotIn (a b : D) : Ev (oNotIn (.d a) (.d b) μ) P = eqc (inD a b) fun r => P (.ok (.d (.bl (!r)))) μ := by
  simp only [oNotIn, dV_d]
  cases inD a b <;> simp [eqc]
end
@[simp] theorem in_wr1 : inD (.str wordN) (.tup [.str wordN, .str runN]) = some true := by rfl
@[simp] theorem in_wr2 : inD (.str runN) (.tup [.str wordN, .str runN]) = some true := by rfl
@[simp] theorem in_wr3 : inD (.str rowN) (.tup [.str wordN, .str runN]) = some false := by rfl
@[simp] theorem in_wr4 : inD (.str manyN) (.tup [.str wordN, .str runN]) = some false := by rfl
@[simp] theorem in_wr5 : inD (.str pickN) (.tup [.str wordN, .str runN]) = some false := by rfl
@[simp] theorem in_rp1 : inD (.str wordN) (.tup [.str rowN, .str pickN]) = some false := by rfl
@[simp] theorem in_rp2 : inD (.str runN) (.tup [.str rowN, .str pickN]) = some false := by rfl
@[simp] theorem in_rp3 : inD (.str rowN) (.tup [.str rowN, .str pickN]) = some true := by rfl
@[simp] theorem in_rp4 : inD (.str manyN) (.tup [.str rowN, .str pickN]) = some false := by rfl
@[simp] theorem in_rp5 : inD (.str pickN) (.tup [.str rowN, .str pickN]) = some true := by rfl
@[simp] theorem in_rm1 : inD (.str wordN) (.tup [.str rowN, .str manyN]) = some false := by rfl
@[simp] theorem in_rm2 : inD (.str runN) (.tup [.str rowN, .str manyN]) = some false := by rfl
@[simp] theorem in_rm3 : inD (.str rowN) (.tup [.str rowN, .str manyN]) = some true := by rfl
@[simp] theorem in_rm4 : inD (.str manyN) (.tup [.str rowN, .str manyN]) = some true := by rfl
@[simp] theorem in_rm5 : inD (.str pickN) (.tup [.str rowN, .str manyN]) = some false := by rfl
@[simp] theorem in_sign (c : Nat) (s : List Nat) : inD (.str [c]) (.str s) = some (decide (c ∈ s)) := rfl
theorem bAll_m {α : Type} (xs : List α) (g : α → Bool) (μ : Mu) : bAll [.d (.lst (xs.map fun i => D.bl (g i)))] μ = okz (.bl (xs.all g)) μ := by
  have := bAll_l (μ := μ) (xs.map g)
  rw [List.map_map, List.all_map] at this
  exact this
noncomputable abbrev tblF (f : Nat) : List (String × Fn × List D) := [("Kind", f_Kind_fits, []), ("Word", f_Word_fits, []), ("Run", f_Run_fits, []), ("Row", R_5 f 0, []), ("Pick", R_5 f 1, []), ("Many", R_5 f 2, [])]
noncomputable abbrev tblT (f : Nat) : List (String × Fn × List D) := [("Kind", f_Kind_told, []), ("Word", f_Word_told, []), ("Run", f_Run_told, []), ("Row", R_7 f 0, []), ("Pick", R_7 f 1, []), ("Many", R_7 f 2, [])]
/-- the law's own word of whether, and the program's -/
def FB (n : Nat) (k o t : D) (b : Bool) : Prop := (∀ (f : Nat) (μ : Mu), n < f → R_3 f 0 [.d k, .d t] μ = some (.ok (.d (.bl b)), μ)) ∧
  ∀ (f : Nat), n < f → ∃ fn : Fn, (∀ μ, pick "fits" (tblF f) μ (.d o) = some (fn, [])) ∧ ∀ μ, fn [.d o, .d t] μ = some (.ok (.d (.bl b)), μ)
def TB (n : Nat) (k o t : D) (s : List Nat) : Prop := (∀ (f : Nat) (μ : Mu), n < f → R_6 f 0 [.d k, .d t] μ = some (.ok (.d (.str s)), μ)) ∧
  ∀ (f : Nat), n < f → ∃ fn : Fn, (∀ μ, pick "told" (tblT f) μ (.d o) = some (fn, [])) ∧ ∀ μ, fn [.d o, .d t] μ = some (.ok (.d (.str s)), μ)
inductive Fit : D → D → Prop
  | word (t : List Nat) : Fit (.tup [.str wordN, .str t]) (.tup [.str wordN, .str t])
  | run (u t : List Nat) (lo hi : Nat) : lo ≤ t.length → t.length ≤ hi → (∀ c ∈ t, c ∈ u) → Fit (.tup [.str runN, .str u, .int lo, .int hi]) (.tup [.str runN, .str t])
  | row (ks ts : List D) : ks.length = ts.length → (∀ (i : Nat) (k t : D), ks[i]? = some k → ts[i]? = some t → Fit k t) → Fit (.tup [.str rowN, .lst ks]) (.tup [.str rowN, .tup ts])
  | pick (ks : List D) (i : Nat) (k t : D) : ks[i]? = some k → Fit k t → Fit (.tup [.str pickN, .lst ks]) (.tup [.str pickN, .int i, t])
  | many (k : D) (u : List Nat) (ts : List D) : (∀ t ∈ ts, Fit k t) → Fit (.tup [.str manyN, k, .str u]) (.tup [.str manyN, .tup ts])
def Bo (n : Nat) (k o : D) : Prop := ∀ (m : Nat) (t : D), IsT 4 m t → ∃ b, FB n k o t b ∧ (Fit k t → b = true) ∧ (b = true → m ≤ 6 → ∃ s, s.length ≤ 80 * 5 ^ m ∧ TB n k o t s)
theorem pow80 (m : Nat) : 80 ≤ 80 * 5 ^ m := Nat.le_mul_of_pos_right _ (Nat.pow_pos (by decide))
/-- of another sort: the law's own word -/
theorem fits_ne {g g' : List Nat} {x x' : D} {r r' : List D} (h : g ≠ g') (f : Nat) (μ : Mu) (hf : 0 < f) : R_3 f 0 [.d (.tup (.str g :: x :: r)), .d (.tup (.str g' :: x' :: r'))] μ = some (.ok (.d (.bl false)), μ) := by
  obtain ⟨f, rfl⟩ : ∃ m, f = m + 1 := ⟨f - 1, by omega⟩
  apply of_Ev
  show Ev (b_L_fits (R_3 f) _ _) _
  unfold b_L_fits
  simp [h.symm]
theorem bo_word (n : Nat) (u : List Nat) (hu : u.length ≤ 20) : Bo n (.tup [.str wordN, .str u]) (.ins "Word" [("text", .str u)]) := by
  intro m t ht
  have pk : ∀ (f : Nat) (μ : Mu), pick "fits" (tblF f) μ (.d (.ins "Word" [("text", .str u)])) = some (f_Word_fits, []) := fun f μ => rfl
  have pk2 : ∀ (f : Nat) (μ : Mu), pick "told" (tblT f) μ (.d (.ins "Word" [("text", .str u)])) = some (f_Word_told, []) := fun f μ => rfl
  have no : ∀ (g : List Nat) (x : D) (r : List D), t = .tup (.str g :: x :: r) → g ≠ wordN → FB n (.tup [.str wordN, .str u]) (.ins "Word" [("text", .str u)]) t false := by
    rintro g x r rfl hg
    refine ⟨fun f μ hf => fits_ne hg.symm f μ (by omega), fun f hf => ⟨_, pk f, fun μ => ?_⟩⟩
    apply of_Ev
    unfold f_Word_fits
    have := ht.ok
    simp only [D.ok, D.okL, Bool.true_and] at this
    simp
    rw [eqD_tag (n := 2 * m) (l := x :: r) (by simpa only [D.okL] using this) hg]
    simp
  cases ht with
  | word t h =>
    refine ⟨decide (t = u), ⟨fun f μ hf => ?_, fun f hf => ⟨_, pk f, fun μ => ?_⟩⟩, fun h => (by cases h; simp), fun hb hm => ⟨u, by have := pow80 m; omega, fun f μ hf => ?_, fun f hf => ⟨_, pk2 f, fun μ => ?_⟩⟩⟩
    · obtain ⟨f, rfl⟩ : ∃ m, f = m + 1 := ⟨f - 1, by omega⟩
      apply of_Ev
      show Ev (b_L_fits (R_3 f) _ _) _
      unfold b_L_fits
      simp
      rw [eqD_t2]; simp
    · apply of_Ev
      unfold f_Word_fits
      simp
      rw [eqD_t2]; simp
    · obtain ⟨f, rfl⟩ : ∃ m, f = m + 1 := ⟨f - 1, by omega⟩
      apply of_Ev
      show Ev (b_L_told (R_6 f) _ _) _
      unfold b_L_told
      simp at hb
      simp [hb]
    · apply of_Ev
      unfold f_Word_told
      simp
  | run t h => exact ⟨false, no _ _ _ rfl (by decide), fun h => (by cases h), fun h => (by cases h)⟩
  | row ts h1 h2 => exact ⟨false, no _ _ _ rfl (by decide), fun h => (by cases h), fun h => (by cases h)⟩
  | many ts h1 h2 => exact ⟨false, no _ _ _ rfl (by decide), fun h => (by cases h), fun h => (by cases h)⟩
  | pick i t h1 h2 h3 => exact ⟨false, no _ _ _ rfl (by decide), fun h => (by cases h), fun h => (by cases h)⟩
theorem bo_run (n : Nat) (u : List Nat) (lo hi : Nat) (h1 : u ≠ []) (h2 : u.length ≤ 60) (h3 : lo ≤ hi) (h4 : hi ≤ 12) : Bo n (.tup [.str runN, .str u, .int lo, .int hi]) (.ins "Run" [("signs", .str u), ("least", .int lo), ("most", .int hi)]) := by
  intro m t ht
  have pk : ∀ (f : Nat) (μ : Mu), pick "fits" (tblF f) μ (.d (.ins "Run" [("signs", .str u), ("least", .int lo), ("most", .int hi)])) = some (f_Run_fits, []) := fun f μ => rfl
  have pk2 : ∀ (f : Nat) (μ : Mu), pick "told" (tblT f) μ (.d (.ins "Run" [("signs", .str u), ("least", .int lo), ("most", .int hi)])) = some (f_Run_told, []) := fun f μ => rfl
  have no : ∀ (g : List Nat) (x : D) (r : List D), t = .tup (.str g :: x :: r) → g ≠ runN → FB n (.tup [.str runN, .str u, .int lo, .int hi]) (.ins "Run" [("signs", .str u), ("least", .int lo), ("most", .int hi)]) t false := by
    rintro g x r rfl hg
    refine ⟨fun f μ hf => fits_ne hg.symm f μ (by omega), fun f hf => ⟨_, pk f, fun μ => ?_⟩⟩
    apply of_Ev
    unfold f_Run_fits
    simp [hg]
  cases ht with
  | run t h =>
    refine ⟨decide ((lo ≤ t.length ∧ t.length ≤ hi) ∧ ∀ c ∈ t, c ∈ u), ⟨fun f μ hf => ?_, fun f hf => ⟨_, pk f, fun μ => ?_⟩⟩, fun h => (by cases h with | run _ _ _ _ a b c => simpa using ⟨⟨a, b⟩, c⟩), fun hb hm => ⟨t, by have := pow80 m; omega, fun f μ hf => ?_, fun f hf => ⟨_, pk2 f, fun μ => ?_⟩⟩⟩
    · obtain ⟨f, rfl⟩ : ∃ m, f = m + 1 := ⟨f - 1, by omega⟩
      apply of_Ev
      show Ev (b_L_fits (R_3 f) _ _) _
      unfold b_L_fits
      simp
      refine ⟨by omega, ?_⟩
      by_cases a : lo ≤ t.length <;> by_cases b : t.length ≤ hi <;> simp [a, b]
      have hi' : (fSeqW (fOp2 oIx (fVar 1) (fC (.int 1)))) [some (Sv.d (D.tup [D.str runN, D.str u, D.int lo, D.int hi])), some (Sv.d (D.tup [D.str runN, D.str t])), some (Sv.d (D.bl true)), none, none, none] μ = some (.ok ⟨t.map fun c => .d (.str [c]), fun _ => True⟩, μ) := by
        apply of_Ev; simp
      refine Ev_of (lcWF _ hi' (by simp; omega) (fun x => match x with | .d (.str [c]) => !decide (c ∈ u) | _ => false) (fun x => match x with | .d d => d | _ => .non) ?_) ?_
      · intro x acc hx
        obtain ⟨c, hc, rfl⟩ := List.mem_map.1 hx
        refine ⟨_, rfl, ?_, fun _ => rfl⟩
        apply of_Ev
        simp [wipeZ]
      · simp
        rw [eqD_lnil (n := 0) (okL_of fun x hx => by
          obtain ⟨y, hy, rfl⟩ := List.mem_map.1 hx
          obtain ⟨hy, _⟩ := List.mem_filter.1 hy
          obtain ⟨c, hc, rfl⟩ := List.mem_map.1 hy
          rfl)]
        simp [a, b]
    · apply of_Ev
      unfold f_Run_fits
      simp
      refine ⟨by omega, ?_⟩
      by_cases a : lo ≤ t.length <;> by_cases b : t.length ≤ hi <;> simp [a, b, show (hi < t.length) = ¬ (t.length ≤ hi) by simp]
      have hi' : (fSeqW (fOp2 oIx (fVar 1) (fC (.int 1)))) [some (Sv.d (D.ins "Run" [("signs", D.str u), ("least", D.int lo), ("most", D.int hi)])), some (Sv.d (D.tup [D.str runN, D.str t])), none] μ = some (.ok ⟨t.map fun c => .d (.str [c]), fun _ => True⟩, μ) := by
        apply of_Ev; simp
      refine Ev_of (lcWm t (fun c => Sv.d (.str [c])) hi' (by omega) (fun c => .bl (decide (c ∈ u))) ?_) ?_
      · intro c μ' hc
        refine ⟨_, rfl, ?_⟩
        apply of_Ev
        simp [wipeZ]
      · simp
        rw [bAll_m]
        simp
        apply Bool.eq_iff_iff.2
        simp [a, b]
    · obtain ⟨f, rfl⟩ : ∃ m, f = m + 1 := ⟨f - 1, by omega⟩
      apply of_Ev
      show Ev (b_L_told (R_6 f) _ _) _
      unfold b_L_told
      simp
    · apply of_Ev
      unfold f_Run_told
      simp
  | word t h => exact ⟨false, no _ _ _ rfl (by decide), fun h => (by cases h), fun h => (by cases h)⟩
  | row ts h1 h2 => exact ⟨false, no _ _ _ rfl (by decide), fun h => (by cases h), fun h => (by cases h)⟩
  | many ts h1 h2 => exact ⟨false, no _ _ _ rfl (by decide), fun h => (by cases h), fun h => (by cases h)⟩
  | pick i t h1 h2 h3 => exact ⟨false, no _ _ _ rfl (by decide), fun h => (by cases h), fun h => (by cases h)⟩
/-- a text of parts -/
theorem b5 {n L l : Nat} (h : n ≤ 4) (hl : l ≤ 5) (hL : 80 ≤ L) : n * L + n * l ≤ L * 5 := by
  have h1 : n * L ≤ 4 * L := Nat.mul_le_mul_right _ h
  have h2 : n * l ≤ 4 * 5 := Nat.mul_le_mul h hl
  omega
theorem b6 {m : Nat} (hm : m ≤ 7) : 80 * 5 ^ m ≤ 16777216 :=
  Nat.le_trans (Nat.mul_le_mul_left _ (Nat.pow_le_pow_right (by decide) hm)) (by decide)
theorem bo_many (n : Nat) (k o : D) (u : List Nat) (hu : u.length ≤ 5) (ih : Bo n k o) : Bo (n + 1) (.tup [.str manyN, k, .str u]) (.ins "Many" [("part", o), ("between", .str u)]) := by
  intro m t ht
  have pk : ∀ (f : Nat) (μ : Mu), pick "fits" (tblF f) μ (.d (.ins "Many" [("part", o), ("between", .str u)])) = some (R_5 f 2, []) := fun f μ => rfl
  have pk2 : ∀ (f : Nat) (μ : Mu), pick "told" (tblT f) μ (.d (.ins "Many" [("part", o), ("between", .str u)])) = some (R_7 f 2, []) := fun f μ => rfl
  have no : ∀ (g : List Nat) (x : D) (r : List D), t = .tup (.str g :: x :: r) → g ≠ manyN → FB (n + 1) (.tup [.str manyN, k, .str u]) (.ins "Many" [("part", o), ("between", .str u)]) t false := by
    rintro g x r rfl hg
    refine ⟨fun f μ hf => fits_ne hg.symm f μ (by omega), fun f hf => ⟨_, pk f, fun μ => ?_⟩⟩
    obtain ⟨f, rfl⟩ : ∃ m, f = m + 1 := ⟨f - 1, by omega⟩
    apply of_Ev
    show Ev (b_Many_fits (R_5 f) _ _) _
    unfold b_Many_fits
    simp [hg]
  cases ht with
  | @many m ts h1 h2 =>
    obtain ⟨g, hg⟩ := choose_rg (n := ts.length) (P := fun i b => FB n k o (ts.getD i .non) b ∧ (Fit k (ts.getD i .non) → b = true) ∧ (b = true → m ≤ 6 → ∃ s, s.length ≤ 80 * 5 ^ m ∧ TB n k o (ts.getD i .non) s)) fun i hi => ih m _ (h2 _ (List.mem_of_getElem? (getD_at hi)))
    refine ⟨(List.range ts.length).all g, ⟨fun f μ hf => ?_, fun f hf => ⟨_, pk f, fun μ => ?_⟩⟩, fun h => ?_, fun hb hm => ?_⟩
    · obtain ⟨f, rfl⟩ : ∃ m, f = m + 1 := ⟨f - 1, by omega⟩
      apply of_Ev
      show Ev (b_L_fits (R_3 f) _ _) _
      unfold b_L_fits
      simp
      refine Ev_of (lcWm (List.range ts.length) (fun (i : Nat) => Sv.d (ts.getD i .non)) (by rw [← seq_rg]; apply of_Ev; simp) (by simp; omega) (fun i => .bl (g i)) ?_) ?_
      · intro i μ' hi
        refine ⟨_, rfl, ?_⟩
        apply of_Ev
        simp [wipeZ]
        exact Ev_of ((hg i (List.mem_range.1 hi)).1.1 f μ' (by omega)) (by simp)
      · simp
        rw [bAll_m]
        simp
    · obtain ⟨f, rfl⟩ : ∃ m, f = m + 1 := ⟨f - 1, by omega⟩
      apply of_Ev
      show Ev (b_Many_fits (R_5 f) _ _) _
      unfold b_Many_fits
      simp
      refine Ev_of (lcWm (List.range ts.length) (fun (i : Nat) => Sv.d (ts.getD i .non)) (by rw [← seq_rg]; apply of_Ev; simp) (by simp; omega) (fun i => .bl (g i)) ?_) ?_
      · intro i μ' hi
        refine ⟨_, rfl, ?_⟩
        apply of_Ev
        simp [wipeZ]
        obtain ⟨fn, e1, e2⟩ := (hg i (List.mem_range.1 hi)).1.2 f (by omega)
        rw [e1]
        simp
        exact Ev_of (e2 μ') (by simp)
      · simp
        rw [bAll_m]
        simp
    · cases h
      rename_i h
      exact all_rg.2 fun i hi => (hg i hi).2.1 (h _ (List.mem_of_getElem? (getD_at hi)))
    · obtain ⟨s, hs⟩ := choose_rg (n := ts.length) (P := fun i s => s.length ≤ 80 * 5 ^ m ∧ TB n k o (ts.getD i .non) s) fun i hi => (hg i hi).2.2 (all_rg.1 hb i hi) (by omega)
      have hp := pow80 m
      have hq := b6 (m := m + 1) (by omega)
      rw [Nat.pow_succ] at hq
      have h5 := b5 (n := ts.length) (L := 80 * 5 ^ m) (l := u.length) h1 hu hp
      have hj := fun μ => mJoin_g ts.length (80 * 5 ^ m) u s (fun i hi => (hs i hi).1) (by omega) μ
      refine ⟨joinL u ((List.range ts.length).map s), by have := (hj []).2; rw [Nat.pow_succ]; omega, fun f μ hf => ?_, fun f hf => ⟨_, pk2 f, fun μ => ?_⟩⟩
      · obtain ⟨f, rfl⟩ : ∃ m, f = m + 1 := ⟨f - 1, by omega⟩
        apply of_Ev
        show Ev (b_L_told (R_6 f) _ _) _
        unfold b_L_told
        simp
        refine Ev_of (lcWm (List.range ts.length) (fun (i : Nat) => Sv.d (ts.getD i .non)) (by rw [← seq_rg]; apply of_Ev; simp) (by simp; omega) (fun i => .str (s i)) ?_) ?_
        · intro i μ' hi
          refine ⟨_, rfl, ?_⟩
          apply of_Ev
          simp [wipeZ]
          exact Ev_of ((hs i (List.mem_range.1 hi)).2.1 f μ' (by omega)) (by simp)
        · simp
          rw [(hj _).1]
          simp
      · obtain ⟨f, rfl⟩ : ∃ m, f = m + 1 := ⟨f - 1, by omega⟩
        apply of_Ev
        show Ev (b_Many_told (R_7 f) _ _) _
        unfold b_Many_told
        simp
        refine Ev_of (lcWm (List.range ts.length) (fun (i : Nat) => Sv.d (ts.getD i .non)) (by rw [← seq_rg]; apply of_Ev; simp) (by simp; omega) (fun i => .str (s i)) ?_) ?_
        · intro i μ' hi
          refine ⟨_, rfl, ?_⟩
          apply of_Ev
          simp [wipeZ]
          obtain ⟨fn, e1, e2⟩ := (hs i (List.mem_range.1 hi)).2.2 f (by omega)
          rw [e1]
          simp
          exact Ev_of (e2 μ') (by simp)
        · simp
          rw [(hj _).1]
          simp
  | word t h => exact ⟨false, no _ _ _ rfl (by decide), fun h => (by cases h), fun h => (by cases h)⟩
  | run t h => exact ⟨false, no _ _ _ rfl (by decide), fun h => (by cases h), fun h => (by cases h)⟩
  | row ts h1 h2 => exact ⟨false, no _ _ _ rfl (by decide), fun h => (by cases h), fun h => (by cases h)⟩
  | pick i t h1 h2 h3 => exact ⟨false, no _ _ _ rfl (by decide), fun h => (by cases h), fun h => (by cases h)⟩
theorem bo_row (n : Nat) (ks os : List D) (hl : ks.length = os.length) (h3 : ks.length ≤ 3) (ih : ∀ (i : Nat) (k o : D), ks[i]? = some k → os[i]? = some o → Bo n k o) : Bo (n + 1) (.tup [.str rowN, .lst ks]) (.ins "Row" [("parts", .lst os)]) := by
  intro m t ht
  have pk : ∀ (f : Nat) (μ : Mu), pick "fits" (tblF f) μ (.d (.ins "Row" [("parts", .lst os)])) = some (R_5 f 0, []) := fun f μ => rfl
  have pk2 : ∀ (f : Nat) (μ : Mu), pick "told" (tblT f) μ (.d (.ins "Row" [("parts", .lst os)])) = some (R_7 f 0, []) := fun f μ => rfl
  have no : ∀ (g : List Nat) (x : D) (r : List D), t = .tup (.str g :: x :: r) → g ≠ rowN → FB (n + 1) (.tup [.str rowN, .lst ks]) (.ins "Row" [("parts", .lst os)]) t false := by
    rintro g x r rfl hg
    refine ⟨fun f μ hf => fits_ne hg.symm f μ (by omega), fun f hf => ⟨_, pk f, fun μ => ?_⟩⟩
    obtain ⟨f, rfl⟩ : ∃ m, f = m + 1 := ⟨f - 1, by omega⟩
    apply of_Ev
    show Ev (b_Row_fits (R_5 f) _ _) _
    unfold b_Row_fits
    simp [hg]
  cases ht with
  | @row m ts h1 h2 =>
    by_cases hlen : ts.length = ks.length
    · have at_k : ∀ i, i < ts.length → ks[i]? = some (ks.getD i .non) := fun i hi => getD_at (by omega)
      have at_o : ∀ i, i < ts.length → os[i]? = some (os.getD i .non) := fun i hi => getD_at (by omega)
      obtain ⟨g, hg⟩ := choose_rg (n := ts.length) (P := fun i b => FB n (ks.getD i .non) (os.getD i .non) (ts.getD i .non) b ∧ (Fit (ks.getD i .non) (ts.getD i .non) → b = true) ∧ (b = true → m ≤ 6 → ∃ s, s.length ≤ 80 * 5 ^ m ∧ TB n (ks.getD i .non) (os.getD i .non) (ts.getD i .non) s)) fun i hi => ih i _ _ (at_k i hi) (at_o i hi) m _ (h2 _ (List.mem_of_getElem? (getD_at hi)))
      have ixk : ∀ i, i < ts.length → L2.atI ks (i : Int) = some (ks.getD i .non) := fun i hi => by rw [atI_eq (by omega) (by omega)]; exact at_k i hi
      have h3' : (ts.length : Int) = ks.length := by omega
      have h3o : (ts.length : Int) = os.length := by omega
      refine ⟨(List.range ts.length).all g, ⟨fun f μ hf => ?_, fun f hf => ⟨_, pk f, fun μ => ?_⟩⟩, fun h => ?_, fun hb hm => ?_⟩
      · obtain ⟨f, rfl⟩ : ∃ m, f = m + 1 := ⟨f - 1, by omega⟩
        apply of_Ev
        show Ev (b_L_fits (R_3 f) _ _) _
        unfold b_L_fits
        simp [hlen]
        refine Ev_of (lcWm (List.range ts.length) (fun (i : Nat) => Sv.d (.tup [.int i, ts.getD i .non])) (by rw [← enI_rg]; apply of_Ev; simp) (by simp; omega) (fun i => .bl (g i)) ?_) ?_
        · intro i μ' hi
          refine ⟨_, rfl, ?_⟩
          apply of_Ev
          simp [wipeZ]
          rw [ixk i (List.mem_range.1 hi)]
          simp only [Option.some.injEq, exists_eq_left']
          exact Ev_of ((hg i (List.mem_range.1 hi)).1.1 f μ' (by omega)) (by simp)
        · simp
          rw [bAll_m]
          simp [hlen]
      · obtain ⟨f, rfl⟩ : ∃ m, f = m + 1 := ⟨f - 1, by omega⟩
        apply of_Ev
        show Ev (b_Row_fits (R_5 f) _ _) _
        unfold b_Row_fits
        simp [show ts.length = os.length by omega]
        refine Ev_of (lcWm (List.range ts.length) (fun (i : Nat) => Sv.d (.tup [os.getD i .non, ts.getD i .non])) (by rw [← zipI_rg _ _ (by omega)]; apply of_Ev; simp) (by simp; omega) (fun i => .bl (g i)) ?_) ?_
        · intro i μ' hi
          refine ⟨_, rfl, ?_⟩
          apply of_Ev
          simp [wipeZ]
          obtain ⟨fn, e1, e2⟩ := (hg i (List.mem_range.1 hi)).1.2 f (by omega)
          simp only [List.getD_eq_getElem?_getD] at e1 e2
          rw [e1]
          simp
          exact Ev_of (e2 μ') (by simp)
        · simp
          rw [bAll_m]
          simp [show ts.length = os.length by omega]
      · cases h
        rename_i _ h
        exact all_rg.2 fun i hi => (hg i hi).2.1 (h i _ _ (at_k i hi) (getD_at hi))
      · obtain ⟨s, hs⟩ := choose_rg (n := ts.length) (P := fun i s => s.length ≤ 80 * 5 ^ m ∧ TB n (ks.getD i .non) (os.getD i .non) (ts.getD i .non) s) fun i hi => (hg i hi).2.2 (all_rg.1 hb i hi) (by omega)
        have hp := pow80 m
        have hq := b6 (m := m + 1) (by omega)
        rw [Nat.pow_succ] at hq
        have h5 := b5 (n := ts.length) (L := 80 * 5 ^ m) (l := ([] : List Nat).length) h1 (by simp) hp
        have hj := fun μ => mJoin_g ts.length (80 * 5 ^ m) [] s (fun i hi => (hs i hi).1) (by omega) μ
        refine ⟨joinL [] ((List.range ts.length).map s), by have := (hj []).2; rw [Nat.pow_succ]; omega, fun f μ hf => ?_, fun f hf => ⟨_, pk2 f, fun μ => ?_⟩⟩
        · obtain ⟨f, rfl⟩ : ∃ m, f = m + 1 := ⟨f - 1, by omega⟩
          apply of_Ev
          show Ev (b_L_told (R_6 f) _ _) _
          unfold b_L_told
          simp
          refine Ev_of (lcWm (List.range ts.length) (fun (i : Nat) => Sv.d (.tup [.int i, ts.getD i .non])) (by rw [← enI_rg]; apply of_Ev; simp) (by simp; omega) (fun i => .str (s i)) ?_) ?_
          · intro i μ' hi
            refine ⟨_, rfl, ?_⟩
            apply of_Ev
            simp [wipeZ]
            rw [ixk i (List.mem_range.1 hi)]
            simp only [Option.some.injEq, exists_eq_left']
            exact Ev_of ((hs i (List.mem_range.1 hi)).2.1 f μ' (by omega)) (by simp)
          · simp
            rw [(hj _).1]
            simp
        · obtain ⟨f, rfl⟩ : ∃ m, f = m + 1 := ⟨f - 1, by omega⟩
          apply of_Ev
          show Ev (b_Row_told (R_7 f) _ _) _
          unfold b_Row_told
          simp
          refine Ev_of (lcWm (List.range ts.length) (fun (i : Nat) => Sv.d (.tup [os.getD i .non, ts.getD i .non])) (by rw [← zipI_rg _ _ (by omega)]; apply of_Ev; simp) (by simp; omega) (fun i => .str (s i)) ?_) ?_
          · intro i μ' hi
            refine ⟨_, rfl, ?_⟩
            apply of_Ev
            simp [wipeZ]
            obtain ⟨fn, e1, e2⟩ := (hs i (List.mem_range.1 hi)).2.2 f (by omega)
            simp only [List.getD_eq_getElem?_getD] at e1 e2
            rw [e1]
            simp
            exact Ev_of (e2 μ') (by simp)
          · simp
            rw [(hj _).1]
            simp
    · refine ⟨false, ⟨fun f μ hf => ?_, fun f hf => ⟨_, pk f, fun μ => ?_⟩⟩, fun h => ?_, fun h => by cases h⟩
      · obtain ⟨f, rfl⟩ : ∃ m, f = m + 1 := ⟨f - 1, by omega⟩
        apply of_Ev
        show Ev (b_L_fits (R_3 f) _ _) _
        unfold b_L_fits
        simp [hlen]
        try (intro h; exfalso; omega)
      · obtain ⟨f, rfl⟩ : ∃ m, f = m + 1 := ⟨f - 1, by omega⟩
        apply of_Ev
        show Ev (b_Row_fits (R_5 f) _ _) _
        unfold b_Row_fits
        simp [show ¬ ts.length = os.length by omega]
        try (intro h; exfalso; omega)
      · cases h
        rename_i h _
        exact absurd h.symm hlen
  | word t h => exact ⟨false, no _ _ _ rfl (by decide), fun h => (by cases h), fun h => (by cases h)⟩
  | run t h => exact ⟨false, no _ _ _ rfl (by decide), fun h => (by cases h), fun h => (by cases h)⟩
  | many ts h1 h2 => exact ⟨false, no _ _ _ rfl (by decide), fun h => (by cases h), fun h => (by cases h)⟩
  | pick i t h1 h2 h3 => exact ⟨false, no _ _ _ rfl (by decide), fun h => (by cases h), fun h => (by cases h)⟩
theorem bo_pick (n : Nat) (ks os : List D) (hl : ks.length = os.length) (h3 : ks.length ≤ 3) (ih : ∀ (i : Nat) (k o : D), ks[i]? = some k → os[i]? = some o → Bo n k o) : Bo (n + 1) (.tup [.str pickN, .lst ks]) (.ins "Pick" [("parts", .lst os)]) := by
  intro m t ht
  have pk : ∀ (f : Nat) (μ : Mu), pick "fits" (tblF f) μ (.d (.ins "Pick" [("parts", .lst os)])) = some (R_5 f 1, []) := fun f μ => rfl
  have pk2 : ∀ (f : Nat) (μ : Mu), pick "told" (tblT f) μ (.d (.ins "Pick" [("parts", .lst os)])) = some (R_7 f 1, []) := fun f μ => rfl
  have no : ∀ (g : List Nat) (x : D) (r : List D), t = .tup (.str g :: x :: r) → g ≠ pickN → FB (n + 1) (.tup [.str pickN, .lst ks]) (.ins "Pick" [("parts", .lst os)]) t false := by
    rintro g x r rfl hg
    refine ⟨fun f μ hf => fits_ne hg.symm f μ (by omega), fun f hf => ⟨_, pk f, fun μ => ?_⟩⟩
    obtain ⟨f, rfl⟩ : ∃ m, f = m + 1 := ⟨f - 1, by omega⟩
    apply of_Ev
    show Ev (b_Pick_fits (R_5 f) _ _) _
    unfold b_Pick_fits
    simp [hg]
  cases ht with
  | @pick m i t h1 h2 ht =>
    by_cases hi : 0 ≤ i ∧ i < ks.length
    · have hik : i.toNat < ks.length := by omega
      obtain ⟨k, hk⟩ : ∃ k, ks[i.toNat]? = some k := ⟨_, List.getElem?_eq_getElem hik⟩
      obtain ⟨o, ho⟩ : ∃ k, os[i.toNat]? = some k := ⟨_, List.getElem?_eq_getElem (by omega)⟩
      have ik : L2.atI ks i = some k := by rw [atI_eq hi.1 hi.2]; exact hk
      have io : L2.atI os i = some o := by rw [atI_eq hi.1 (by omega)]; exact ho
      obtain ⟨b, hb1, hb2, hb3⟩ := ih i.toNat _ _ hk ho m t ht
      have hio : i < os.length := by omega
      refine ⟨b, ⟨fun f μ hf => ?_, fun f hf => ⟨_, pk f, fun μ => ?_⟩⟩, fun h => ?_, fun hb hm => ?_⟩
      · obtain ⟨f, rfl⟩ : ∃ m, f = m + 1 := ⟨f - 1, by omega⟩
        apply of_Ev
        show Ev (b_L_fits (R_3 f) _ _) _
        unfold b_L_fits
        simp [hi.1, hi.2, ik]
        exact Ev_of (hb1.1 f μ (by omega)) (by simp)
      · obtain ⟨f, rfl⟩ : ∃ m, f = m + 1 := ⟨f - 1, by omega⟩
        apply of_Ev
        show Ev (b_Pick_fits (R_5 f) _ _) _
        unfold b_Pick_fits
        simp [hi.1, hio, io]
        obtain ⟨fn, e1, e2⟩ := hb1.2 f (by omega)
        rw [e1]
        simp
        exact Ev_of (e2 μ) (by simp)
      · cases h with
        | pick _ j k' _ hj hk' =>
          apply hb2
          have : some k = some k' := by rw [← hk, ← hj]; congr 1
          cases this; exact hk'
      · obtain ⟨s, hs1, hs2⟩ := hb3 hb (by omega)
        refine ⟨s, Nat.le_trans hs1 (Nat.mul_le_mul_left _ (Nat.pow_le_pow_right (by decide) (by omega))), fun f μ hf => ?_, fun f hf => ⟨_, pk2 f, fun μ => ?_⟩⟩
        · obtain ⟨f, rfl⟩ : ∃ m, f = m + 1 := ⟨f - 1, by omega⟩
          apply of_Ev
          show Ev (b_L_told (R_6 f) _ _) _
          unfold b_L_told
          simp [ik]
          exact Ev_of (hs2.1 f μ (by omega)) (by simp)
        · obtain ⟨f, rfl⟩ : ∃ m, f = m + 1 := ⟨f - 1, by omega⟩
          apply of_Ev
          show Ev (b_Pick_told (R_7 f) _ _) _
          unfold b_Pick_told
          simp [io]
          obtain ⟨fn, e1, e2⟩ := hs2.2 f (by omega)
          rw [e1]
          simp
          exact Ev_of (e2 μ) (by simp)
    · refine ⟨false, ⟨fun f μ hf => ?_, fun f hf => ⟨_, pk f, fun μ => ?_⟩⟩, fun h => ?_, fun h => by cases h⟩
      · obtain ⟨f, rfl⟩ : ∃ m, f = m + 1 := ⟨f - 1, by omega⟩
        apply of_Ev
        show Ev (b_L_fits (R_3 f) _ _) _
        unfold b_L_fits
        by_cases h0 : 0 ≤ i
        · simp [h0, show ¬ i < ks.length by omega]
        · simp [h0]
      · obtain ⟨f, rfl⟩ : ∃ m, f = m + 1 := ⟨f - 1, by omega⟩
        apply of_Ev
        show Ev (b_Pick_fits (R_5 f) _ _) _
        unfold b_Pick_fits
        by_cases h0 : 0 ≤ i
        · simp [h0, show ¬ i < os.length by omega]
        · simp [h0]
      · cases h
        rename_i j k hj hk
        have := (List.getElem?_eq_some_iff.1 hj).1
        omega
  | word t h => exact ⟨false, no _ _ _ rfl (by decide), fun h => (by cases h), fun h => (by cases h)⟩
  | run t h => exact ⟨false, no _ _ _ rfl (by decide), fun h => (by cases h), fun h => (by cases h)⟩
  | row ts h1 h2 => exact ⟨false, no _ _ _ rfl (by decide), fun h => (by cases h), fun h => (by cases h)⟩
  | many ts h1 h2 => exact ⟨false, no _ _ _ rfl (by decide), fun h => (by cases h), fun h => (by cases h)⟩
theorem bo {n : Nat} {k o : D} (h : IsK n k o) : Bo n k o := by
  induction h with
  | word t h => exact bo_word _ t h
  | run s lo hi h1 h2 h3 h4 => exact bo_run _ s lo hi h1 h2 h3 h4
  | row ks os h1 h2 _ ih => exact bo_row _ ks os h1 h2 ih
  | pick ks os h1 h2 _ _ ih => exact bo_pick _ ks os h1 h2 ih
  | many k o b h _ ih => exact bo_many _ k o b h ih
end Y
namespace Y
open PySem PySem.Spec PyProof.Rows L2 Z
theorem turned_sp (n k : Int) (h0 : 0 ≤ k) (h1 : k ≤ 1000000) (μ : Mu) : Ev (f_L_turned [.d (.int n), .d (.int k)] μ) fun r μ' => ∃ v : Int, r = .ok (.d (.int v)) ∧ μ' = μ ∧ 0 ≤ v ∧ v < 2147483647 := by
  unfold f_L_turned
  simp
  have m0 := Int.emod_nonneg k (b := 4) (by decide)
  have m1 := Int.emod_lt_of_pos k (b := 4) (by decide)
  obtain ⟨st, est, mst⟩ := atI_lst (l := [D.int 48271, .int 16807, .int 69621, .int 39373]) m0 (by simpa using m1)
  obtain ⟨j, rfl, j0, j1⟩ : ∃ j : Int, st = .int j ∧ 0 < j ∧ j < 100000 := by
    simp at mst
    rcases mst with rfl | rfl | rfl | rfl <;> exact ⟨_, rfl, by decide, by decide⟩
  refine ⟨by omega, _, est, ?_⟩
  simp
  refine ⟨by omega, ?_⟩
  generalize (n + 1 + 5081 * k * k) * j = y
  exact ⟨Int.emod_nonneg y (by decide), Int.emod_lt_of_pos y (by decide)⟩
theorem mixed_sp (ns : List Int) (hn : ns.length ≤ 63) (k : Int) (h0 : 0 ≤ k) (h1 : k ≤ 1000) (μ : Mu) : Ev (f_L_mixed [.d (.lst (ns.map D.int)), .d (.int k)] μ) fun r μ' => ∃ v : Int, r = .ok (.d (.int v)) ∧ μ' = μ ∧ 0 ≤ v ∧ v < 2147483647 := by
  unfold f_L_mixed
  simp
  have hp : (0 : Int) < max 1 (ns.length : Int) := by omega
  have m0 := Int.emod_nonneg k (b := max 1 (ns.length : Int)) (by omega)
  have m1 := Int.emod_lt_of_pos k hp
  obtain ⟨c, ec, mc⟩ := atI_lst (l := ns.map D.int ++ [D.int 0]) m0 (by simp; omega)
  obtain ⟨j, rfl⟩ : ∃ j : Int, c = .int j := by
    rcases List.mem_append.1 mc with h | h
    · obtain ⟨c, _, rfl⟩ := List.mem_map.1 h
      exact ⟨c, rfl⟩
    · simp at h; exact ⟨0, h⟩
  refine ⟨by omega, hp, _, ec, ?_⟩
  simp
  refine ⟨by omega, by omega, ?_⟩
  generalize (j + 1 + 1009 * k * k) * (48271 + 2 * k) = y
  exact ⟨Int.emod_nonneg y (by decide), Int.emod_lt_of_pos y (by decide)⟩
def signsL : List Nat := [32, 33, 34, 35, 36, 38, 39, 40, 41, 42, 43, 44, 45, 46, 47, 58, 59, 60, 61, 62, 63, 64, 91, 92, 93, 94, 95, 96, 123, 124, 125, 126, 10, 48, 49, 50, 51, 52, 53, 54, 55, 56, 57, 97, 98, 99, 100, 101, 102, 103, 104, 105, 106, 107, 108, 109, 110, 111, 112, 113, 114, 115, 116, 117, 118, 119, 120, 121, 122, 65, 66, 67, 68, 69, 70, 71, 72, 73, 74, 75, 76, 77, 78, 79, 80, 81, 82, 83, 84, 85, 86, 87, 88, 89, 90]
theorem signsL_len : signsL.length = 95 := rfl
theorem signs_sp (μ : Mu) : f_L_signs [] μ = some (.ok (.d (.str signsL)), μ) := by
  apply of_Ev
  unfold f_L_signs
  simp [signsL]
theorem word_sp (n size : Int) (h0 : 0 ≤ size) (h1 : size ≤ 20) (μ : Mu) : Ev (f_L_word [.d (.int n), .d (.int size)] μ) fun r μ' => ∃ t : List Nat, r = .ok (.d (.str t)) ∧ μ' = μ ∧ (t.length : Int) = size := by
  unfold f_L_word
  simp
  refine Ev_of (signs_sp _) ?_
  simp
  have hi : Ev (fRng1 (fCons (fVar 1) fNil) [some (Sv.d (D.int n)), some (Sv.d (D.int size)), some (Sv.d (D.str signsL)), none] μ) fun q μ' => q = .ok (rngI 0 size.toNat) ∧ μ' = μ := by
    simp; omega
  obtain ⟨_, μ, hi, rfl, rfl⟩ := hi
  refine Ev_lcF _ hi (by simp; omega) (fun i acc μ' => μ' = μ ∧ ∃ l : List Nat, acc = (l.map fun c => D.str [c]) ∧ l.length = i) ⟨rfl, [], rfl, rfl⟩ ?_ ?_
  · rintro i x acc μ' hx ha hl ⟨rfl, l, rfl, hli⟩
    obtain ⟨hi, rfl⟩ := rngI_at hx
    simp [wipeZ]
    refine (turned_sp n (40 + (i : Int)) (by omega) (by omega) _).imp ?_
    rintro _ _ ⟨v, rfl, rfl, v0, v1⟩
    have h95 : signsL.length = 95 := rfl
    have m0 := Int.emod_nonneg v (b := 95) (by decide)
    have m1 := Int.emod_lt_of_pos v (b := 95) (by decide)
    obtain ⟨c, ec, _, _⟩ := atI_of (l := signsL) m0 (by rw [h95]; exact m1)
    simp [h95, ec]
    exact ⟨l ++ [c], by simp, by simp [hli]⟩
  · rintro acc μ' hl hm' ⟨rfl, l, rfl, hli⟩
    simp at hli
    refine ⟨Lk.refl _, ?_⟩
    simp
    rw [mJoin_c _ (by omega)]
    simp
    omega
theorem run_sp (n wide : Int) (h0 : 0 < wide) (h1 : wide ≤ 9) (μ : Mu) : Ev (f_L_run [.d (.int n), .d (.int wide)] μ) fun r μ' => ∃ (u : List Nat) (lo hi : Nat), r = .ok (.d (.tup [.str runN, .str u, .int lo, .int hi])) ∧ μ' = μ ∧ u ≠ [] ∧ u.length ≤ 60 ∧ lo ≤ hi ∧ hi ≤ 12 := by
  unfold f_L_run
  simp
  refine Ev_of (signs_sp _) ?_
  have h95 : signsL.length = 95 := rfl
  have a0 := Int.emod_nonneg n (b := 95) (by decide)
  have a1 := Int.emod_lt_of_pos n (b := 95) (by decide)
  simp [h95]
  obtain ⟨x, ex, mx⟩ := atI_lst (l := [D.int 1, .int 3, .int 12, .int 60]) (Int.emod_nonneg (n / 7) (b := 4) (by decide)) (by simpa using Int.emod_lt_of_pos (n / 7) (b := 4) (by decide))
  obtain ⟨m, rfl, m0, m1⟩ : ∃ j : Int, x = .int j ∧ 0 < j ∧ j ≤ 60 := by
    simp at mx
    rcases mx with rfl | rfl | rfl | rfl <;> exact ⟨_, rfl, by decide, by decide⟩
  obtain ⟨y, ey, my⟩ := atI_lst (l := [D.int 1, .int 3, .int wide]) (Int.emod_nonneg (n / 11) (b := 3) (by decide)) (by simpa using Int.emod_lt_of_pos (n / 11) (b := 3) (by decide))
  obtain ⟨z, rfl, z0, z1⟩ : ∃ j : Int, y = .int j ∧ 0 < j ∧ j ≤ 9 := by
    simp at my
    rcases my with rfl | rfl | rfl
    · exact ⟨_, rfl, by decide, by decide⟩
    · exact ⟨_, rfl, by decide, by decide⟩
    · exact ⟨_, rfl, h0, h1⟩
  have b0 := Int.emod_nonneg (n / 96) (b := m) (by omega)
  have b1 := Int.emod_lt_of_pos (n / 96) m0
  have c0 := Int.emod_nonneg (n / 5760) (b := 4) (by decide)
  have c1 := Int.emod_lt_of_pos (n / 5760) (b := 4) (by decide)
  have d0 := Int.emod_nonneg (n / 23040) (b := z) (by omega)
  have d1 := Int.emod_lt_of_pos (n / 23040) z0
  refine ⟨_, ex, ?_⟩
  simp
  refine ⟨m0, ?_⟩
  generalize hfi : n % 95 = first at *
  generalize hmn : 1 + n / 96 % m = many at *
  generalize hle : n / 5760 % 4 = least at *
  have hmany : 1 ≤ many ∧ many ≤ 60 := by omega
  have hi : Ev (fRng1 (fCons (fVar 4) fNil) [some (Sv.d (D.int n)), some (Sv.d (D.int wide)), some (Sv.d (D.str signsL)), some (Sv.d (D.int first)), some (Sv.d (D.int many)), some (Sv.d (D.int least)), none, none] μ) fun q μ' => q = .ok (rngI 0 many.toNat) ∧ μ' = μ := by
    simp; omega
  obtain ⟨_, μ, hi, rfl, rfl⟩ := hi
  refine Ev_lcF _ hi (by simp; omega) (fun i acc μ' => μ' = μ ∧ ∃ l : List Nat, acc = (l.map fun c => D.str [c]) ∧ l.length = i) ⟨rfl, [], rfl, rfl⟩ ?_ ?_
  · rintro i x acc μ' hx ha hl ⟨rfl, l, rfl, hli⟩
    obtain ⟨hi, rfl⟩ := rngI_at hx
    simp [wipeZ]
    have h190 : (signsL ++ signsL).length = 190 := rfl
    obtain ⟨c, ec, _, _⟩ := atI_of (l := signsL ++ signsL) (i := first + (i : Int)) (by omega) (by rw [h190]; omega)
    simp [h95, ec]
    exact ⟨l ++ [c], by simp, by simp [hli]⟩
  · rintro acc μ' hl hm' ⟨rfl, l, rfl, hli⟩
    simp at hli
    refine ⟨Lk.refl _, ?_⟩
    simp
    rw [mJoin_c _ (by omega)]
    simp
    refine ⟨_, ey, ?_⟩
    simp
    refine ⟨by omega, l, least.toNat, (max 1 least + n / 23040 % z).toNat, ⟨rfl, by omega, by omega⟩, ?_, by omega, by omega, by omega⟩
    intro h; subst h; simp at hli; omega
def KP (n : Nat) : Prop := ∀ (num : Int) (f : Nat), n < f → ∀ μ, Ev (R_0 f 0 [.d (.int num), .d (.int n)] μ) fun r μ' => ∃ k o, r = .ok (.d k) ∧ μ' = μ ∧ IsK n k o
theorem wd_sp (a j z : Int) (z0 : 0 ≤ z) (z1 : z ≤ 20) (μ : Mu) (P : Except Exn Sv → Mu → Prop) (k : ∀ t : List Nat, t.length ≤ 20 → P (.ok (.d (.str t))) μ) : ∃ c, L2.atI [D.int 0, D.int 1, D.int 2, D.int 3, D.int 1, D.int 2, D.int 7, D.int z] (j % 8) = some c ∧ Ev (f_L_word [.d (.int a), .d c] μ) P := by
  obtain ⟨x, ex, _, mx⟩ := atI_mod [D.int 0, D.int 1, D.int 2, D.int 3, D.int 1, D.int 2, D.int 7, D.int z] j (by simp)
  obtain ⟨m, rfl, m0, m1⟩ : ∃ j : Int, x = .int j ∧ 0 ≤ j ∧ j ≤ 20 := by
    simp at mx
    rcases mx with rfl | rfl | rfl | rfl | rfl | rfl | rfl | rfl
    all_goals first | exact ⟨_, rfl, by decide, by decide⟩ | exact ⟨_, rfl, z0, z1⟩
  refine ⟨_, ex, (word_sp _ m m0 m1 μ).imp ?_⟩
  rintro _ _ ⟨t, rfl, rfl, ht⟩
  exact k t (by omega)
theorem parts_sp (m f : Nat) (num way more sz : Int) (h0 : 0 ≤ sz) (h3 : sz ≤ 3) (hf : m < f) (ihm : KP m) (μ : Mu) (P : Except Exn Sv → Mu → Prop) (k : ∀ ks os : List D, ks.length = os.length → (∀ (i : Nat) (k o : D), ks[i]? = some k → os[i]? = some o → IsK m k o) → (ks.length : Int) = sz → P (.ok (.d (.lst ks))) μ) :
    Ev (fFrz (fLcC (fRng1 (fCons (fVar 4) fNil)) [6] (gN 6) fYes (fCall (R_0 f 0) [] (fCons (fCall f_L_turned [] (fCons (fVar 3) (fCons (fVar 6) fNil))) (fCons (fOp2 oSub (fVar 1) (fC (.int 1))) fNil))))
      [some (.d (.int num)), some (.d (.int ((m : Int) + 1))), some (.d (.int way)), some (.d (.int more)), some (.d (.int sz)), none, none, none] μ) P := by
  refine Ev_mapC (rngI 0 sz.toNat) (by simp; omega) (by simp; omega) (fun i y => ∃ o, IsK m y o) ?_ ?_
  · intro i x μ' hx
    obtain ⟨hi, rfl⟩ := rngI_at hx
    simp [wipeZ]
    refine (turned_sp more (i : Int) (by omega) (by omega) μ').imp ?_
    rintro _ _ ⟨v, rfl, rfl, v0, v1⟩
    simp
    refine (ihm v f hf _).imp ?_
    rintro _ _ ⟨y, o, rfl, rfl, h⟩
    exact ⟨_, rfl, rfl, o, h⟩
  · intro acc hl hR
    obtain ⟨os, h1, h2⟩ := ex_list (R := IsK m) hR
    exact k acc os h1.symm h2 (by simp at hl; omega)
theorem kind_step (n : Nat) (hn : n ≤ 3) (ih : ∀ m, n = m + 1 → KP m) : KP n := by
  intro num f hf μ
  obtain ⟨f, rfl⟩ : ∃ m, f = m + 1 := ⟨f - 1, by omega⟩
  show Ev (b_L_kind (R_0 f) _ _) _
  unfold b_L_kind
  have w0 := Int.emod_nonneg num (b := 9) (by decide)
  have w1 := Int.emod_lt_of_pos num (b := 9) (by decide)
  have fin : ∀ t : List Nat, t.length ≤ 20 → ∃ k o, (Except.ok (ε := Exn) (Sv.d (.tup [.str wordN, .str t]))) = .ok (.d k) ∧ IsK n k o := fun t ht => ⟨_, _, rfl, .word t ht⟩
  by_cases hA : num % 9 < 2
  · simp [hA]
    by_cases h1 : 1 < (n : Int)
    · simp [h1]
      refine wd_sp _ _ 20 (by decide) (by decide) _ _ fun t ht => ?_
      simp
      exact ⟨_, .word t ht⟩
    · simp [h1]
      refine wd_sp _ _ 4 (by decide) (by decide) _ _ fun t ht => ?_
      simp
      exact ⟨_, .word t ht⟩
  · by_cases hB : n = 0 ∧ 3 < num % 9
    · obtain ⟨rfl, hB⟩ := hB
      simp [hA, hB]
      refine wd_sp _ _ 4 (by decide) (by decide) _ _ fun t ht => ?_
      simp
      exact ⟨_, .word t ht⟩
    · by_cases hC : num % 9 < 4
      · have hB2 : ¬ (3 < num % 9) := by omega
        by_cases h0 : 0 < n
        · simp [hA, hB2, hC, h0]
          refine (run_sp _ 9 (by decide) (by decide) _).imp ?_
          rintro _ _ ⟨u, lo, hi, rfl, rfl, a, b, c, d⟩
          simp
          exact ⟨_, .run u lo hi a b c d⟩
        · simp [hA, hB2, hC, h0]
          refine (run_sp _ 3 (by decide) (by decide) _).imp ?_
          rintro _ _ ⟨u, lo, hi, rfl, rfl, a, b, c, d⟩
          simp
          exact ⟨_, .run u lo hi a b c d⟩
      · have hn1 : ¬ n = 0 := by omega
        obtain ⟨m, rfl⟩ : ∃ m, n = m + 1 := ⟨n - 1, by omega⟩
        have ihm := ih m rfl
        have hn2 : ¬ ((m : Int) + 1 < 1) := by omega
        by_cases hD : num % 9 < 7
        · have sz : ∀ (s : Int), ∃ z : Int, L2.atI [D.int 3, D.int 2] (if (m : Int) + 1 = 2 then 1 else 0) = some (.int z) ∧ (z = 2 ∨ z = 3) := fun s => by
            rw [atI_if]; split
            · exact ⟨2, rfl, .inl rfl⟩
            · exact ⟨3, rfl, .inr rfl⟩
          have q0 := Int.emod_nonneg (num / 9) (b := 2) (by decide)
          by_cases h6 : num % 9 = 6
          · simp [hA, hn2, hC, hD, h6]
            obtain ⟨z, hz, hz2⟩ := sz 0
            refine ⟨?_, _, hz, ?_⟩
            · obtain ⟨x, ex, _⟩ := atI_mod [D.int 0, D.int 1, D.int 2, D.int 3, D.int 2, D.int 2] (num / 9) (by simp)
              exact ⟨x, ex⟩
            · simp
              refine parts_sp m f _ _ _ _ (by omega) (by omega) (by omega) ihm _ _ fun ks os h1 h2 h3 => ?_
              simp
              exact ⟨_, .pick ks os h1 (by omega) (by intro h; subst h; simp at h3; omega) h2⟩
          · simp [hA, hn2, hC, hD, h6]
            obtain ⟨z, hz, hz2⟩ := sz 0
            obtain ⟨x, ex, _, mx⟩ := atI_mod [D.int 0, D.int 1, D.int 2, D.int 3, D.int 2, D.int 2] (num / 9) (by simp)
            obtain ⟨y, rfl, y0, y1⟩ : ∃ y : Int, x = .int y ∧ 0 ≤ y ∧ y ≤ 3 := by
              simp at mx
              rcases mx with rfl | rfl | rfl | rfl | rfl | rfl
              all_goals exact ⟨_, rfl, by decide, by decide⟩
            refine ⟨_, ex, _, hz, ?_⟩
            simp
            refine parts_sp m f _ _ _ _ (by omega) (by omega) (by omega) ihm _ _ fun ks os h1 h2 h3 => ?_
            simp [h6]
            exact ⟨_, .row ks os h1 (by omega) h2⟩
        · simp [hA, hn2, hC, hD]
          refine (turned_sp _ 1 (by decide) (by decide) μ).imp ?_
          rintro _ _ ⟨v, rfl, rfl, v0, v1⟩
          simp
          refine (ihm v f (by omega) _).imp ?_
          rintro _ _ ⟨y, o, rfl, rfl, h⟩
          simp
          obtain ⟨x, ex, _, mx⟩ := atI_mod [D.int 0, D.int 1, D.int 2, D.int 5, D.int 1, D.int 0] (num / 9) (by simp)
          obtain ⟨b, rfl, b0, b1⟩ : ∃ y : Int, x = .int y ∧ 0 ≤ y ∧ y ≤ 5 := by
            simp at mx
            rcases mx with rfl | rfl | rfl | rfl | rfl | rfl
            all_goals exact ⟨_, rfl, by decide, by decide⟩
          refine ⟨_, ex, (word_sp _ b b0 (by omega) _).imp ?_⟩
          rintro _ _ ⟨t, rfl, rfl, ht⟩
          simp
          exact ⟨_, .many y o t (by omega) h⟩
theorem kind_sp : ∀ n, n ≤ 3 → KP n
  | 0, h => kind_step 0 h fun m e => by cases e
  | n + 1, h => kind_step (n + 1) h fun m e => by cases e; exact kind_sp n (by omega)
/-! ### trees of kinds -/
theorem tjoin {u : List Nat} {n : Nat} {acc : List D} (hl : acc.length = n) (hR : ∀ (i : Nat) (y : D), acc[i]? = some y → ∃ c, c ∈ u ∧ y = .str [c]) : ∃ l : List Nat, acc = (l.map fun c => D.str [c]) ∧ l.length = n ∧ ∀ c ∈ l, c ∈ u := by
  obtain ⟨os, h1, h2⟩ := ex_list (R := fun (y : D) (c : Nat) => c ∈ u ∧ y = .str [c]) hR
  refine ⟨os, ?_, by omega, fun c hc => ?_⟩
  · apply List.ext_getElem?
    intro i
    by_cases hi : i < acc.length
    · have a := h2 i _ _ (List.getElem?_eq_getElem hi) (List.getElem?_eq_getElem (show i < os.length by omega))
      rw [List.getElem?_eq_getElem hi, List.getElem?_map, List.getElem?_eq_getElem (show i < os.length by omega), a.2]; rfl
    · rw [List.getElem?_eq_none (by omega), List.getElem?_eq_none (by simp; omega)]
  · obtain ⟨i, hi, rfl⟩ := List.mem_iff_getElem.1 hc
    exact (h2 i _ _ (List.getElem?_eq_getElem (show i < acc.length by omega)) (List.getElem?_eq_getElem hi)).1
def TP (n : Nat) (k : D) : Prop := ∀ (num : Int) (f : Nat), n < f → ∀ μ, Ev (R_1 f 0 [.d k, .d (.int num)] μ) fun r μ' => ∃ t, r = .ok (.d t) ∧ μ' = μ ∧ Fit k t ∧ IsT 3 n t
theorem trees_sp (n f : Nat) (hf : n < f) (l : List D) (hl : l.length ≤ 3) (ih : ∀ k ∈ l, TP n k) (kk : Sv) (num : Int) (μ : Mu) (P : Except Exn Sv → Mu → Prop)
    (c : ∀ ts : List D, ts.length = l.length → (∀ (i : Nat) (k t : D), l[i]? = some k → ts[i]? = some t → Fit k t) → (∀ t ∈ ts, IsT 3 n t) → P (.ok (.d (.lst ts))) μ) :
    Ev (fFrz (fLcW (fEnumM (fCons (fVar 5) fNil)) [3, 6] (gT (gC (gN 3) (gC (gN 6) gE))) fYes (fCall (R_1 f 0) [] (fCons (fVar 6) (fCons (fCall f_L_turned [] (fCons (fVar 1) (fCons (fVar 3) fNil))) fNil))))
      [some kk, some (.d (.int num)), none, none, none, some (.d (.lst l)), none] μ) P := by
  refine Ev_map (enI 0 l) (by simp) (by simp; omega) (fun i t => ∃ k, l[i]? = some k ∧ Fit k t ∧ IsT 3 n t) ?_ ?_
  · intro i x μ' hx
    obtain ⟨k, hk, rfl⟩ := enI_at hx
    have hi := (List.getElem?_eq_some_iff.1 hk).1
    simp [wipeZ]
    refine (turned_sp num (i : Int) (by omega) (by omega) μ').imp ?_
    rintro _ _ ⟨v, rfl, rfl, v0, v1⟩
    simp
    refine (ih k (List.mem_of_getElem? hk) v f hf _).imp ?_
    rintro _ _ ⟨t, rfl, rfl, h⟩
    exact ⟨_, rfl, rfl, k, hk, h⟩
  · intro acc hl hR
    refine c acc (by simpa using hl) (fun i k t h1 h2 => ?_) fun t ht => ?_
    · obtain ⟨k', e, a, _⟩ := hR i t h2
      rw [h1] at e; cases e; exact a
    · obtain ⟨i, hi, rfl⟩ := List.mem_iff_getElem.1 ht
      obtain ⟨_, _, _, a⟩ := hR i _ (List.getElem?_eq_getElem hi)
      exact a
theorem tree_sp {n : Nat} {k o : D} (h : IsK n k o) : TP n k := by
  induction h with
  | @word n t ht =>
    intro num f hf μ
    obtain ⟨f, rfl⟩ : ∃ m, f = m + 1 := ⟨f - 1, by omega⟩
    show Ev (b_L_tree (R_1 f) _ _) _
    unfold b_L_tree
    simp
    exact ⟨.word t, .word t (by omega)⟩
  | @run n u lo hi h1 h2 h3 h4 =>
    intro num f hf μ
    obtain ⟨f, rfl⟩ : ∃ m, f = m + 1 := ⟨f - 1, by omega⟩
    show Ev (b_L_tree (R_1 f) _ _) _
    unfold b_L_tree
    have q0 := Int.emod_nonneg num (b := (hi : Int) - lo + 1) (by omega)
    have q1 := Int.emod_lt_of_pos num (show 0 < (hi : Int) - lo + 1 by omega)
    simp
    refine ⟨by omega, ?_⟩
    generalize hs : (lo : Int) + num % ((hi : Int) - lo + 1) = sz at *
    refine Ev_mapC (rngI 0 sz.toNat) (by simp; omega) (by simp; omega) (fun i y => ∃ c, c ∈ u ∧ y = .str [c]) ?_ ?_
    · intro i x μ' hx
      obtain ⟨hi, rfl⟩ := rngI_at hx
      simp [wipeZ]
      refine (turned_sp num (i : Int) (by omega) (by omega) μ').imp ?_
      rintro _ _ ⟨v, rfl, rfl, v0, v1⟩
      obtain ⟨c, ec, _, mc⟩ := atI_mod u v h1
      simp [ec]
      exact ⟨by omega, List.length_pos_iff.2 h1, by omega, mc⟩
    · intro acc hl hR
      obtain ⟨l, rfl, hll, hm⟩ := tjoin hl hR
      simp at hll
      simp
      rw [mJoin_c _ (by omega)]
      simp
      exact ⟨.run u l lo hi (by omega) (by omega) hm, .run l (by omega)⟩
  | @row n ks os h1 h2 h3 ih =>
    intro num f hf μ
    obtain ⟨f, rfl⟩ : ∃ m, f = m + 1 := ⟨f - 1, by omega⟩
    show Ev (b_L_tree (R_1 f) _ _) _
    unfold b_L_tree
    simp
    refine trees_sp n f (by omega) ks h2 (fun k hk => ?_) _ _ _ _ fun ts a b c => ?_
    · obtain ⟨i, hi, rfl⟩ := List.mem_iff_getElem.1 hk
      exact ih i _ _ (List.getElem?_eq_getElem hi) (List.getElem?_eq_getElem (show i < os.length by omega))
    · simp
      exact ⟨.row ks ts a.symm b, .row ts (by omega) c⟩
  | @pick n ks os h1 h2 h3 h4 ih =>
    intro num f hf μ
    obtain ⟨f, rfl⟩ : ∃ m, f = m + 1 := ⟨f - 1, by omega⟩
    show Ev (b_L_tree (R_1 f) _ _) _
    unfold b_L_tree
    obtain ⟨k, ek, ek2, _⟩ := atI_mod ks num h3
    have hp : 0 < ks.length := List.length_pos_iff.2 h3
    have p0 := Int.emod_nonneg num (b := (ks.length : Int)) (by omega)
    have p1 := Int.emod_lt_of_pos num (show 0 < (ks.length : Int) by omega)
    simp [ek]
    refine ⟨hp, ?_⟩
    refine (turned_sp num 2 (by omega) (by omega) μ).imp ?_
    rintro _ _ ⟨v, rfl, rfl, v0, v1⟩
    simp
    have hi := (List.getElem?_eq_some_iff.1 ek2).1
    refine (ih _ _ _ ek2 (List.getElem?_eq_getElem (show _ < os.length by omega)) v f (by omega) _).imp ?_
    rintro _ _ ⟨t, rfl, rfl, h5, h6⟩
    simp
    refine ⟨?_, .pick _ _ (by omega) (by omega) h6⟩
    have := Fit.pick ks _ k t ek2 h5
    rwa [show (((num % (ks.length : Int)).toNat : Nat) : Int) = num % (ks.length : Int) by omega] at this
  | @many n k o b h1 h2 ih =>
    intro num f hf μ
    obtain ⟨f, rfl⟩ : ∃ m, f = m + 1 := ⟨f - 1, by omega⟩
    show Ev (b_L_tree (R_1 f) _ _) _
    unfold b_L_tree
    have q0 := Int.emod_nonneg num (b := 3) (by decide)
    have q1 := Int.emod_lt_of_pos num (show 0 < (3 : Int) by omega)
    simp
    rw [oRep_c (ds := [k]) (by simp) q0 (by omega) (by simp)]
    have hlen : (List.replicate (num % 3).toNat [k]).flatten = List.replicate (num % 3).toNat k := by
      generalize (num % 3).toNat = j
      induction j with
      | zero => rfl
      | succ j ih => simp [List.replicate_succ, ih]
    rw [hlen]
    simp
    refine trees_sp n f (by omega) _ (by simp; omega) (fun x hx => ?_) _ _ _ _ fun ts a b c => ?_
    · rw [List.eq_of_mem_replicate hx]; exact ih
    · simp
      have hl : ts.length = (num % 3).toNat := by simpa using a
      refine ⟨.many k _ ts fun t ht => ?_, .many ts (by omega) c⟩
      obtain ⟨i, hi, rfl⟩ := List.mem_iff_getElem.1 ht
      exact b i k _ (by rw [List.getElem?_replicate, if_pos (by omega)]) (List.getElem?_eq_getElem hi)
/-! ### trees near -/
theorem odd_sp {n : Nat} {t : D} (h : IsT 3 n t) (num : Int) (μ : Mu) : Ev (f_L_odd [.d t, .d (.int num)] μ) fun r μ' => ∃ t', r = .ok (.d t') ∧ μ' = μ ∧ IsT 4 (n + 1) t' := by
  have h4 := h.mono (c' := 4) (n' := n + 1) (by omega) (by omega)
  have fin : ∀ (l : List D) (k : Int), (l.length : Int) = k → l ≠ [] → (∀ x ∈ l, IsT 4 (n + 1) x) → ∃ c, L2.atI l (num % k) = some c ∧ IsT 4 (n + 1) c := fun l k hk hl hm => by
    subst hk
    obtain ⟨x, ex, _, mx⟩ := atI_mod l num hl
    exact ⟨x, ex, hm x mx⟩
  have w0 : IsT 4 (n + 1) (.tup [.str wordN, .str []]) := .word [] (by simp)
  have w1 : IsT 4 (n + 1) (.tup [.str runN, .str []]) := .run [] (by simp)
  have w2 : IsT 4 (n + 1) (.tup [.str rowN, .tup []]) := .row [] (by simp) (by simp)
  have w3 : IsT 4 (n + 1) (.tup [.str manyN, .tup []]) := .many [] (by simp) (by simp)
  have w4 : IsT 4 (n + 1) (.tup [.str pickN, .int 0, .tup [.str wordN, .str []]]) := .pick 0 _ (by decide) (by decide) (.word [] (by simp))
  have w5 : IsT 4 (n + 1) (.tup [.str rowN, .tup [t]]) := .row _ (by simp) (by simpa using h.mono (by omega) (by omega))
  unfold f_L_odd
  cases h with
  | word t ht =>
    simp -dsimp [cutL_to, cutL_from]
    refine ⟨by omega, by omega, fin _ _ rfl (by simp) ?_⟩
    simp only [List.mem_cons, List.not_mem_nil, or_false]
    rintro x (rfl | rfl | rfl | rfl | rfl | rfl | rfl | rfl | rfl | rfl) <;> try assumption
    · exact .word _ (by simp; omega)
    · exact .word _ (by simp; omega)
    · exact .run _ (by omega)
  | run t ht =>
    simp -dsimp [cutL_to, cutL_from]
    refine ⟨by omega, by omega, fin _ _ rfl (by simp) ?_⟩
    simp only [List.mem_cons, List.not_mem_nil, or_false]
    rintro x (rfl | rfl | rfl | rfl | rfl | rfl | rfl | rfl | rfl | rfl) <;> try assumption
    · exact .run _ (by simp; omega)
    · exact .run _ (by simp; omega)
    · exact .word _ (by omega)
  | @row n ts h1 h2 =>
    have m4 : ∀ t ∈ ts, IsT 4 (n + 1) t := fun t ht => (h2 t ht).mono (by omega) (by omega)
    have wa : IsT 4 (n + 1) (.tup [.str wordN, .str [97]]) := .word _ (by simp)
    simp -dsimp [cutL_to, cutL_from]
    refine ⟨by omega, by omega, fin _ _ rfl (by simp) ?_⟩
    simp only [List.mem_cons, List.not_mem_nil, or_false]
    rintro x (rfl | rfl | rfl | rfl | rfl | rfl | rfl | rfl | rfl | rfl | rfl | rfl) <;> try assumption
    · exact .row _ (by simp; omega) (by simpa [or_imp, forall_and] using ⟨m4, wa⟩)
    · exact .row _ (by simp; omega) fun t ht => m4 t (List.mem_of_mem_tail ht)
    · exact .row _ (by simp; omega) (by simpa using m4)
    · exact .many _ (by omega) m4
    · exact .row _ (by simp; omega) fun t ht => (by
        rcases List.mem_append.1 ht with ht | ht
        · exact m4 t ht
        · exact m4 t (List.mem_of_mem_take ht))
  | @many n ts h1 h2 =>
    have m4 : ∀ t ∈ ts, IsT 4 (n + 1) t := fun t ht => (h2 t ht).mono (by omega) (by omega)
    have wa : IsT 4 (n + 1) (.tup [.str wordN, .str [97]]) := .word _ (by simp)
    simp -dsimp [cutL_to, cutL_from]
    refine ⟨by omega, by omega, fin _ _ rfl (by simp) ?_⟩
    simp only [List.mem_cons, List.not_mem_nil, or_false]
    rintro x (rfl | rfl | rfl | rfl | rfl | rfl | rfl | rfl | rfl | rfl | rfl | rfl) <;> try assumption
    · exact .many _ (by simp; omega) (by simpa [or_imp, forall_and] using ⟨m4, wa⟩)
    · exact .many _ (by simp; omega) fun t ht => m4 t (List.mem_of_mem_tail ht)
    · exact .many _ (by simp; omega) (by simpa using m4)
    · exact .row _ (by omega) m4
    · exact .many _ (by simp; omega) fun t ht => (by
        rcases List.mem_append.1 ht with ht | ht
        · exact m4 t ht
        · exact m4 t (List.mem_of_mem_take ht))
  | @pick n i t h1 h2 h3 =>
    simp -dsimp [cutL_to, cutL_from]
    refine fin _ _ rfl (by simp) ?_
    simp only [List.mem_cons, List.not_mem_nil, or_false]
    rintro x (rfl | rfl | rfl | rfl | rfl | rfl | rfl | rfl | rfl | rfl) <;> try assumption
    · exact .pick _ _ (by omega) (by omega) (h3.mono (by omega) (by omega))
    · exact .pick _ _ (by decide) (by decide) (h3.mono (by omega) (by omega))
    · exact .pick _ _ (by decide) (by decide) (h3.mono (by omega) (by omega))
    · exact h3.mono (by omega) (by omega)
@[simp] theorem eqD_it (i : Int) : eqD (.int i) (.tup []) = some false := rfl
theorem spoilt_sp {n : Nat} {t : D} (h : IsT 3 n t) : ∀ (num : Int) (f : Nat), n < f → ∀ μ, Ev (R_4 f 0 [.d t, .d (.int num)] μ) fun r μ' => ∃ t', r = .ok (.d t') ∧ μ' = μ ∧ IsT 4 (n + 1) t' := by
  induction h with
  | @word n t ht =>
    intro num f hf μ
    obtain ⟨f, rfl⟩ : ∃ m, f = m + 1 := ⟨f - 1, by omega⟩
    show Ev (b_L_spoilt (R_4 f) _ _) _
    unfold b_L_spoilt
    have od := odd_sp (.word (n := n) t ht) (num / 3) μ
    simp -dsimp
    refine od.imp ?_
    rintro _ _ ⟨t', rfl, rfl, h⟩
    simpa using h
  | @run n t ht =>
    intro num f hf μ
    obtain ⟨f, rfl⟩ : ∃ m, f = m + 1 := ⟨f - 1, by omega⟩
    show Ev (b_L_spoilt (R_4 f) _ _) _
    unfold b_L_spoilt
    have od := odd_sp (.run (n := n) t ht) (num / 3) μ
    simp -dsimp
    refine od.imp ?_
    rintro _ _ ⟨t', rfl, rfl, h⟩
    simpa using h
  | @row n ts h1 h2 ih =>
    intro num f hf μ
    obtain ⟨f, rfl⟩ : ∃ m, f = m + 1 := ⟨f - 1, by omega⟩
    show Ev (b_L_spoilt (R_4 f) _ _) _
    unfold b_L_spoilt
    have od := odd_sp (.row (n := n) ts h1 h2) (num / 3) μ
    have oke := eqD_tnil (n := 2 * n + 1) (okL_of fun x hx => (h2 x hx).ok)
    by_cases hd1 : num % 3 = 0
    · simp -dsimp [hd1]
      refine od.imp ?_
      rintro _ _ ⟨t', rfl, rfl, h⟩
      simpa using h
    · by_cases ne : ts = []
      · subst ne
        simp -dsimp [oke, hd1]
        refine od.imp ?_
        rintro _ _ ⟨t', rfl, rfl, h⟩
        simpa using h
      · have hp : 0 < ts.length := List.length_pos_iff.2 ne
        obtain ⟨x, ex, ex2, mx⟩ := atI_mod ts (num / 3) ne
        have p0 := Int.emod_nonneg (num / 3) (b := (ts.length : Int)) (by omega)
        have p1 := Int.emod_lt_of_pos (num / 3) (show 0 < (ts.length : Int) by omega)
        simp -dsimp [oke, ne, hd1, ex]
        refine ⟨hp, ?_⟩
        refine (ih x mx (num / 12) f (by omega) μ).imp ?_
        rintro _ _ ⟨t', rfl, rfl, h⟩
        generalize hpl : num / 3 % (ts.length : Int) = pl at *
        simp -dsimp [cutL_to _ pl p0, cutL_from _ (pl + 1) (by omega : (0 : Int) ≤ pl + 1)]
        refine ⟨by omega, by omega, .row _ (by simp; omega) ?_⟩
        have m4 : ∀ t ∈ ts, IsT 4 (n + 1) t := fun t ht => (h2 t ht).mono (by omega) (by omega)
        intro z hz
        rcases List.mem_append.1 hz with hz | hz
        · exact m4 z (List.mem_of_mem_take hz)
        · rcases List.mem_cons.1 hz with rfl | hz
          · exact h
          · exact m4 z (List.mem_of_mem_drop hz)
  | @many n ts h1 h2 ih =>
    intro num f hf μ
    obtain ⟨f, rfl⟩ : ∃ m, f = m + 1 := ⟨f - 1, by omega⟩
    show Ev (b_L_spoilt (R_4 f) _ _) _
    unfold b_L_spoilt
    have od := odd_sp (.many (n := n) ts h1 h2) (num / 3) μ
    have oke := eqD_tnil (n := 2 * n + 1) (okL_of fun x hx => (h2 x hx).ok)
    by_cases hd1 : num % 3 = 0
    · simp -dsimp [hd1]
      refine od.imp ?_
      rintro _ _ ⟨t', rfl, rfl, h⟩
      simpa using h
    · by_cases ne : ts = []
      · subst ne
        simp -dsimp [oke, hd1]
        refine od.imp ?_
        rintro _ _ ⟨t', rfl, rfl, h⟩
        simpa using h
      · have hp : 0 < ts.length := List.length_pos_iff.2 ne
        obtain ⟨x, ex, ex2, mx⟩ := atI_mod ts (num / 3) ne
        have p0 := Int.emod_nonneg (num / 3) (b := (ts.length : Int)) (by omega)
        have p1 := Int.emod_lt_of_pos (num / 3) (show 0 < (ts.length : Int) by omega)
        simp -dsimp [oke, ne, hd1, ex]
        refine ⟨hp, ?_⟩
        refine (ih x mx (num / 12) f (by omega) μ).imp ?_
        rintro _ _ ⟨t', rfl, rfl, h⟩
        generalize hpl : num / 3 % (ts.length : Int) = pl at *
        simp -dsimp [cutL_to _ pl p0, cutL_from _ (pl + 1) (by omega : (0 : Int) ≤ pl + 1)]
        refine ⟨by omega, by omega, .many _ (by simp; omega) ?_⟩
        have m4 : ∀ t ∈ ts, IsT 4 (n + 1) t := fun t ht => (h2 t ht).mono (by omega) (by omega)
        intro z hz
        rcases List.mem_append.1 hz with hz | hz
        · exact m4 z (List.mem_of_mem_take hz)
        · rcases List.mem_cons.1 hz with rfl | hz
          · exact h
          · exact m4 z (List.mem_of_mem_drop hz)
  | @pick n i t h1 h2 h3 ih =>
    intro num f hf μ
    obtain ⟨f, rfl⟩ : ∃ m, f = m + 1 := ⟨f - 1, by omega⟩
    show Ev (b_L_spoilt (R_4 f) _ _) _
    unfold b_L_spoilt
    have od := odd_sp (.pick i t h1 h2 h3) (num / 3) μ
    by_cases hd : num % 3 = 0
    · simp -dsimp [hd]
      refine od.imp ?_
      rintro _ _ ⟨t', rfl, rfl, h⟩
      simpa using h
    · simp -dsimp [hd]
      refine (ih (num / 3) f (by omega) μ).imp ?_
      rintro _ _ ⟨t', rfl, rfl, h⟩
      simp
      exact .pick _ _ h1 (by omega) h
/-! ### the program's things -/
def BP (n : Nat) (k o : D) : Prop := ∀ (f : Nat), n < f → ∀ μ, R_2 f 0 [.d k] μ = some (.ok (.d o), μ)
theorem builts_sp {n f : Nat} (hf : n < f) {ks os : List D} (h1 : ks.length = os.length) (h2 : ks.length ≤ 3) (ih : ∀ (i : Nat) (k o : D), ks[i]? = some k → os[i]? = some o → BP n k o) (x : D) (μ : Mu) (P : Except Exn Sv → Mu → Prop) (c : P (.ok (.d (.lst os))) μ) :
    Ev (fFrz (fLcW (fSeqW (fOp2 oIx (fVar 0) (fC (.int 1)))) [1] (gN 1) fYes (fCall (R_2 f 0) [] (fCons (fVar 1) fNil))) [some (.d (.tup [x, .lst ks])), none] μ) P := by
  refine Ev_map (ks.map Sv.d) (by simp) (by simp; omega) (fun i y => os[i]? = some y) ?_ ?_
  · intro i x μ' hx
    obtain ⟨k, hk, rfl⟩ : ∃ k, ks[i]? = some k ∧ x = .d k := by
      rw [List.getElem?_map] at hx
      cases h : ks[i]? with
      | none => rw [h] at hx; cases hx
      | some k => rw [h] at hx; cases hx; exact ⟨k, rfl, rfl⟩
    have hi := (List.getElem?_eq_some_iff.1 hk).1
    have ho := List.getElem?_eq_getElem (show i < os.length by omega)
    simp -dsimp [wipeZ]
    exact Ev_of (ih i _ _ hk ho f hf _) (by simp)
  · intro acc hl hR
    have : acc = os := List.ext_getElem? fun i => by
      by_cases hi : i < acc.length
      · rw [List.getElem?_eq_getElem hi, hR i _ (List.getElem?_eq_getElem hi)]
      · have hl' : acc.length = ks.length := by simpa using hl
        rw [List.getElem?_eq_none (by omega), List.getElem?_eq_none (by omega)]
    rw [this]; exact c
theorem built_sp {n : Nat} {k o : D} (h : IsK n k o) : BP n k o := by
  induction h with
  | @word n t ht =>
    intro f hf μ
    obtain ⟨f, rfl⟩ : ∃ m, f = m + 1 := ⟨f - 1, by omega⟩
    apply of_Ev
    show Ev (b_L_built (R_2 f) _ _) _
    unfold b_L_built
    simp -dsimp
    refine Ev_frzmk [("text", .str t)] (by simp; rfl) (fun μ0 => ?_) (by simp)
    unfold f_Word_init
    simp -dsimp
  | @run n u lo hi h1 h2 h3 h4 =>
    intro f hf μ
    obtain ⟨f, rfl⟩ : ∃ m, f = m + 1 := ⟨f - 1, by omega⟩
    apply of_Ev
    show Ev (b_L_built (R_2 f) _ _) _
    unfold b_L_built
    simp -dsimp
    refine Ev_frzmk [("signs", .str u), ("least", .int lo), ("most", .int hi)] (by simp; rfl) (fun μ0 => ?_) (by simp)
    unfold f_Run_init
    simp -dsimp
  | @row n ks os h1 h2 h3 ih =>
    intro f hf μ
    obtain ⟨f, rfl⟩ : ∃ m, f = m + 1 := ⟨f - 1, by omega⟩
    apply of_Ev
    show Ev (b_L_built (R_2 f) _ _) _
    unfold b_L_built
    simp -dsimp
    refine Ev_frzmk [("parts", .lst os)] (as := [.d (.lst os)]) ?_ (fun μ0 => ?_) (by simp)
    · simp -dsimp
      exact builts_sp (by omega) h1 h2 ih _ _ _ (by simp)
    · unfold f_Row_init
      simp -dsimp
  | @pick n ks os h1 h2 h3 h4 ih =>
    intro f hf μ
    obtain ⟨f, rfl⟩ : ∃ m, f = m + 1 := ⟨f - 1, by omega⟩
    apply of_Ev
    show Ev (b_L_built (R_2 f) _ _) _
    unfold b_L_built
    simp -dsimp
    refine Ev_frzmk [("parts", .lst os)] (as := [.d (.lst os)]) ?_ (fun μ0 => ?_) (by simp)
    · simp -dsimp
      exact builts_sp (by omega) h1 h2 ih _ _ _ (by simp)
    · unfold f_Pick_init
      simp -dsimp
  | @many n k o b h1 h2 ih =>
    intro f hf μ
    obtain ⟨f, rfl⟩ : ∃ m, f = m + 1 := ⟨f - 1, by omega⟩
    apply of_Ev
    show Ev (b_L_built (R_2 f) _ _) _
    unfold b_L_built
    simp -dsimp
    refine Ev_frzmk [("part", o), ("between", .str b)] (as := [.d o, .d (.str b)]) ?_ (fun μ0 => ?_) (by simp)
    · simp -dsimp
      exact Ev_of (ih f (by omega) _) (by simp)
    · unfold f_Many_init
      simp -dsimp
theorem is_so_sp {n m : Nat} {k o t : D} (h : IsK n k o) (hn : n ≤ 3) (ht : IsT 4 m t) (hm : m ≤ 6) (μ : Mu) : f_L_is_so [.d o, .d k, .d t] μ = some (.ok (.d (.bl true)), μ) := by
  obtain ⟨b, hb, _, hs⟩ := bo h m t ht
  obtain ⟨fn, e1, e2⟩ := hb.2 12 (by omega)
  apply of_Ev
  unfold f_L_is_so
  simp -dsimp
  refine Ev_of (hb.1 12 μ (by omega)) ?_
  simp -dsimp [e1 μ]
  refine Ev_of (e2 μ) ?_
  simp -dsimp [e1 μ]
  refine Ev_of (e2 μ) ?_
  simp -dsimp
  cases b with
  | false => simp -dsimp
  | true =>
    obtain ⟨s, hs1, hs2⟩ := hs rfl hm
    obtain ⟨fn2, e3, e4⟩ := hs2.2 12 (by omega)
    simp -dsimp
    refine Ev_of (hs2.1 12 μ (by omega)) ?_
    simp -dsimp [e3 μ]
    refine Ev_of (e4 μ) ?_
    simp -dsimp [e3 μ]
    refine Ev_of (e4 μ) ?_
    simp -dsimp
    rw [eqD_refl 1 (by simp [D.ok, D.okL])]
    simp -dsimp
theorem inner_sp {n : Nat} {k o : D} (h : IsK n k o) (hn : n ≤ 3) (μ : Mu) : ∃ l : List D, f_L_inner [.d k] μ = some (.ok (.d (.lst l)), μ) ∧ l.length ≤ 3 ∧ ∀ x ∈ l, ∃ n' o', n' ≤ 3 ∧ IsK n' x o' := by
  cases h with
  | word t ht => exact ⟨[], of_Ev (by unfold f_L_inner; simp -dsimp), by simp, by simp⟩
  | run u lo hi h1 h2 h3 h4 => exact ⟨[], of_Ev (by unfold f_L_inner; simp -dsimp), by simp, by simp⟩
  | @row n ks os h1 h2 h3 =>
    refine ⟨ks, of_Ev (by unfold f_L_inner; simp -dsimp), h2, fun x hx => ?_⟩
    obtain ⟨i, hi, rfl⟩ := List.mem_iff_getElem.1 hx
    exact ⟨n, _, by omega, h3 i _ _ (List.getElem?_eq_getElem hi) (List.getElem?_eq_getElem (show i < os.length by omega))⟩
  | @pick n ks os h1 h2 h4 h3 =>
    refine ⟨ks, of_Ev (by unfold f_L_inner; simp -dsimp), h2, fun x hx => ?_⟩
    obtain ⟨i, hi, rfl⟩ := List.mem_iff_getElem.1 hx
    exact ⟨n, _, by omega, h3 i _ _ (List.getElem?_eq_getElem hi) (List.getElem?_eq_getElem (show i < os.length by omega))⟩
  | @many n k o b h1 h2 => exact ⟨[k], of_Ev (by unfold f_L_inner; simp -dsimp), by simp, by simpa using ⟨n, ⟨by omega, o, h2⟩⟩⟩
theorem law_true (ns : List Int) (hn : ns.length ≤ 63) : ∃ μ', f_law [.d (.lst (ns.map D.int))] [] = some (.ok (.d (.bl true)), μ') := by
  suffices h : Ev (f_law [.d (.lst (ns.map D.int))] []) fun r μ' => r = .ok (.d (.bl true)) by
    obtain ⟨r, μ', h, rfl⟩ := h
    exact ⟨μ', h⟩
  unfold f_law
  simp -dsimp
  refine ⟨by omega, Es_forL (fun _ δ μ => μ = [] ∧ ∃ x1 x2 x3 x4 x5 x6 x7 x8 x9 x10, δ = [some (.d (.lst (ns.map D.int))), x1, x2, x3, x4, x5, x6, x7, x8, x9, x10]) _ 0 _ _ ⟨rfl, none, none, none, none, none, none, none, none, none, none, rfl⟩ ?_ ?_⟩
  · rintro i x δ μ hx ⟨rfl, x1, x2, x3, x4, x5, x6, x7, x8, x9, x10, rfl⟩
    obtain ⟨hi, rfl⟩ := rngI_at hx
    simp -dsimp
    refine (mixed_sp ns hn _ (by omega) (by omega) []).imp ?_
    rintro _ _ ⟨num, rfl, rfl, n0, n1⟩
    simp -dsimp
    obtain ⟨d, ed, _, md⟩ := atI_mod [D.int 2, .int 3, .int 1, .int 2] (num / 9) (by simp)
    obtain ⟨dn, rfl, hd⟩ : ∃ m : Nat, d = .int m ∧ m ≤ 3 := by
      simp at md
      rcases md with rfl | rfl | rfl | rfl
      · exact ⟨2, rfl, by decide⟩
      · exact ⟨3, rfl, by decide⟩
      · exact ⟨1, rfl, by decide⟩
      · exact ⟨2, rfl, by decide⟩
    refine ⟨_, ed, ?_⟩
    refine (kind_sp dn hd num 12 (by omega) []).imp ?_
    rintro _ _ ⟨k, o, rfl, rfl, hk⟩
    simp -dsimp
    refine (turned_sp num 3 (by decide) (by decide) []).imp ?_
    rintro _ _ ⟨v, rfl, rfl, v0, v1⟩
    simp -dsimp
    refine (tree_sp hk v 12 (by omega) []).imp ?_
    rintro _ _ ⟨t, rfl, rfl, hf, ht⟩
    simp -dsimp
    refine Ev_of (built_sp hk 12 (by omega) []) ?_
    simp -dsimp
    obtain ⟨b, hb, hbt, _⟩ := bo hk dn t (ht.mono (by omega) (by omega))
    obtain rfl := hbt hf
    refine Ev_of (hb.1 12 [] (by omega)) ?_
    simp -dsimp
    refine Es_forL (fun _ δ μ => μ = [] ∧ ∃ t' y6 y7, IsT 4 (dn + 1) t' ∧ δ = [some (.d (.lst (ns.map D.int))), some (.d (.int i)), some (.d (.int num)), some (.d k), some (.d t'), some (.d o), y6, y7, x8, x9, x10]) _ 0 _ _ ⟨rfl, t, x6, x7, ht.mono (by omega) (by omega), rfl⟩ ?_ ?_
    · rintro j x δ μ hx ⟨rfl, t', y6, y7, ht', rfl⟩
      obtain ⟨hj, rfl⟩ := rngI_at hx
      simp -dsimp
      refine Ev_of (is_so_sp hk hd ht' (by omega) []) ?_
      simp -dsimp
      refine (turned_sp num 3 (by decide) (by decide) []).imp ?_
      rintro _ _ ⟨v, rfl, rfl, v0, v1⟩
      simp -dsimp
      refine (tree_sp hk v 12 (by omega) []).imp ?_
      rintro _ _ ⟨t2, rfl, rfl, hf2, ht2⟩
      simp -dsimp
      refine (turned_sp num (4 + (j : Int)) (by omega) (by omega) []).imp ?_
      rintro _ _ ⟨v2, rfl, rfl, v20, v21⟩
      simp -dsimp
      refine (spoilt_sp ht2 v2 12 (by omega) []).imp ?_
      rintro _ _ ⟨t3, rfl, rfl, ht3⟩
      simp -dsimp
      exact ht3
    · rintro δ μ ⟨rfl, t', y6, y7, ht', rfl⟩
      simp -dsimp
      obtain ⟨l, e, l3, hl⟩ := inner_sp hk hd []
      refine Ev_of e ?_
      simp -dsimp
      refine Es_forL (fun _ δ μ => μ = [] ∧ ∃ z8 z9 z10, δ = [some (.d (.lst (ns.map D.int))), some (.d (.int i)), some (.d (.int num)), some (.d k), some (.d t'), some (.d o), y6, y7, z8, z9, z10]) _ 0 _ _ ⟨rfl, _, _, _, rfl⟩ ?_ ?_
      · rintro j x δ μ hx ⟨rfl, z8, z9, z10, rfl⟩
        obtain ⟨y, hy, rfl⟩ := List.mem_map.1 (List.mem_of_getElem? hx)
        obtain ⟨n', o', hn', hk'⟩ := hl y hy
        simp -dsimp
        refine (tree_sp hk' num 12 (by omega) []).imp ?_
        rintro _ _ ⟨t2, rfl, rfl, hf2, ht2⟩
        simp -dsimp
        refine Ev_of (built_sp hk' 12 (by omega) []) ?_
        simp -dsimp
        refine Ev_of (is_so_sp hk' hn' (ht2.mono (by omega) (by omega)) (m := n') (by omega) []) ?_
        simp -dsimp
        refine Ev_of (is_so_sp hk' hn' ht' (by omega) []) ?_
        simp -dsimp
      · rintro δ μ ⟨rfl, z8, z9, z10, rfl⟩
        simp -dsimp
  · rintro δ μ ⟨rfl, x1, x2, x3, x4, x5, x6, x7, x8, x9, x10, rfl⟩
    simp -dsimp
end Y
namespace Y
open PySem PySem.Spec PyProof.Rows L2 Z
def topZ (i : Nat) : Stmt := PySem.Challenge.pw_toandfro_k02_whole_trees_fit.main.body.getD i (.Pass ⟨0, 0, 0, 0⟩)
abbrev st_L_mixed : Stmt := (topZ 10)
def S_L_mixed : Scope := ⟨.function, [("_law_script", .local), ("_law_k", .local), ("_law_cell", .local), ("max", .globalImplicit), ("len", .globalImplicit)], false, false, []⟩
theorem hS_L_mixed : defScope st_L_mixed = S_L_mixed := by rfl
abbrev st_L_signs : Stmt := (topZ 12)
def S_L_signs : Scope := ⟨.function, [("_law_marks", .local)], false, false, []⟩
theorem hS_L_signs : defScope st_L_signs = S_L_signs := by rfl
abbrev st_L_run : Stmt := (topZ 14)
def S_L_run : Scope := ⟨.function, [("_law_number", .local), ("_law_wide", .local), ("_law_some", .cell), ("_law_first", .cell), ("_law_many", .local), ("_law_least", .local), ("_law_signs_here", .local), ("_law_signs", .globalImplicit), ("len", .globalImplicit), ("range", .globalImplicit), ("max", .globalImplicit)], false, false, [("fast", .str "_law_number"), ("fast", .str "_law_wide"), ("fast", .str "_law_some"), ("fast", .str "_law_first"), ("fast", .str "_law_many"), ("fast", .str "_law_least"), ("fast", .str "_law_j"), ("fast", .str "_law_signs_here")]⟩
theorem hS_L_run : defScope st_L_run = S_L_run := by rfl
abbrev st_L_turned : Stmt := (topZ 11)
def S_L_turned : Scope := ⟨.function, [("_law_number", .local), ("_law_k", .local)], false, false, []⟩
theorem hS_L_turned : defScope st_L_turned = S_L_turned := by rfl
abbrev st_L_word : Stmt := (topZ 13)
def S_L_word : Scope := ⟨.function, [("_law_number", .cell), ("_law_size", .local), ("_law_some", .cell), ("_law_signs", .globalImplicit), ("range", .globalImplicit)], false, false, [("fast", .str "_law_number"), ("fast", .str "_law_size"), ("fast", .str "_law_some"), ("fast", .str "_law_j")]⟩
theorem hS_L_word : defScope st_L_word = S_L_word := by rfl
abbrev st_L_kind : Stmt := (topZ 15)
def S_L_kind : Scope := ⟨.function, [("_law_number", .local), ("_law_deep", .cell), ("_law_way", .local), ("_law_more", .cell), ("_law_size", .local), ("_law_parts", .local), ("_law_part", .local), ("_law_word", .globalImplicit), ("int", .globalImplicit), ("_law_run", .globalImplicit), ("min", .globalImplicit), ("range", .globalImplicit), ("_law_kind", .globalImplicit), ("_law_turned", .globalImplicit)], false, false, [("fast", .str "_law_number"), ("fast", .str "_law_deep"), ("fast", .str "_law_way"), ("fast", .str "_law_more"), ("fast", .str "_law_size"), ("fast", .str "_law_j"), ("fast", .str "_law_parts"), ("fast", .str "_law_part")]⟩
theorem hS_L_kind : defScope st_L_kind = S_L_kind := by rfl
abbrev st_L_tree : Stmt := (topZ 20)
def S_L_tree : Scope := ⟨.function, [("_law_kind_here", .cell), ("_law_number", .cell), ("_law_size", .local), ("_law_place", .local), ("_law_some", .local), ("range", .globalImplicit), ("len", .globalImplicit), ("_law_tree", .globalImplicit), ("_law_turned", .globalImplicit), ("tuple", .globalImplicit), ("enumerate", .globalImplicit)], false, false, [("fast", .str "_law_kind_here"), ("fast", .str "_law_number"), ("fast", .str "_law_size"), ("fast", .str "_law_j"), ("fast", .str "_law_place"), ("fast", .str "_law_some"), ("fast", .str "_law_one")]⟩
theorem hS_L_tree : defScope st_L_tree = S_L_tree := by rfl
abbrev st_Many_init : Stmt := (inClass (topZ 7) 0)
def S_Many_init : Scope := ⟨.function, [("self", .local), ("part", .local), ("between", .local)], false, false, []⟩
theorem hS_Many_init : defScope st_Many_init = S_Many_init := by rfl
abbrev st_Word_init : Stmt := (inClass (topZ 3) 0)
def S_Word_init : Scope := ⟨.function, [("self", .local), ("text", .local)], false, false, []⟩
theorem hS_Word_init : defScope st_Word_init = S_Word_init := by rfl
abbrev st_Run_init : Stmt := (inClass (topZ 4) 0)
def S_Run_init : Scope := ⟨.function, [("self", .local), ("signs", .local), ("least", .local), ("most", .local)], false, false, []⟩
theorem hS_Run_init : defScope st_Run_init = S_Run_init := by rfl
abbrev st_Row_init : Stmt := (inClass (topZ 5) 0)
def S_Row_init : Scope := ⟨.function, [("self", .local), ("parts", .local), ("list", .globalImplicit)], false, false, []⟩
theorem hS_Row_init : defScope st_Row_init = S_Row_init := by rfl
abbrev st_Pick_init : Stmt := (inClass (topZ 6) 0)
def S_Pick_init : Scope := ⟨.function, [("self", .local), ("parts", .local), ("list", .globalImplicit)], false, false, []⟩
theorem hS_Pick_init : defScope st_Pick_init = S_Pick_init := by rfl
abbrev st_L_built : Stmt := (topZ 16)
def S_L_built : Scope := ⟨.function, [("_law_kind_here", .local), ("Word", .globalImplicit), ("Run", .globalImplicit), ("Row", .globalImplicit), ("Pick", .globalImplicit), ("Many", .globalImplicit), ("_law_built", .globalImplicit)], false, false, [("fast", .str "_law_kind_here"), ("fast", .str "_law_one")]⟩
theorem hS_L_built : defScope st_L_built = S_L_built := by rfl
abbrev st_L_inner : Stmt := (topZ 17)
def S_L_inner : Scope := ⟨.function, [("_law_kind_here", .local), ("list", .globalImplicit)], false, false, []⟩
theorem hS_L_inner : defScope st_L_inner = S_L_inner := by rfl
abbrev st_L_fits : Stmt := (topZ 18)
def S_L_fits : Scope := ⟨.function, [("_law_kind_here", .cell), ("_law_tree_here", .local), ("_law_good", .local), ("len", .globalImplicit), ("_law_fits", .globalImplicit), ("all", .globalImplicit), ("enumerate", .globalImplicit)], false, false, [("fast", .str "_law_kind_here"), ("fast", .str "_law_tree_here"), ("fast", .str "_law_good"), ("fast", .str "_law_sign"), ("fast", .str "_law_one"), ("fast", .str "_law_j")]⟩
theorem hS_L_fits : defScope st_L_fits = S_L_fits := by rfl
abbrev st_L_odd : Stmt := (topZ 21)
def S_L_odd : Scope := ⟨.function, [("_law_tree_here", .local), ("_law_number", .local), ("_law_some", .local), ("_law_sort", .local), ("_law_own", .local), ("_law_last", .local), ("len", .globalImplicit)], false, false, []⟩
theorem hS_L_odd : defScope st_L_odd = S_L_odd := by rfl
abbrev st_L_spoilt : Stmt := (topZ 22)
def S_L_spoilt : Scope := ⟨.function, [("_law_tree_here", .local), ("_law_number", .local), ("_law_at", .local), ("_law_inner_here", .local), ("_law_odd", .globalImplicit), ("_law_spoilt", .globalImplicit), ("len", .globalImplicit)], false, false, []⟩
theorem hS_L_spoilt : defScope st_L_spoilt = S_L_spoilt := by rfl
abbrev st_Kind_fits : Stmt := (inClass (topZ 2) 7)
def S_Kind_fits : Scope := ⟨.function, [("self", .local), ("tree", .local)], false, false, []⟩
theorem hS_Kind_fits : defScope st_Kind_fits = S_Kind_fits := by rfl
abbrev st_Word_fits : Stmt := (inClass (topZ 3) 3)
def S_Word_fits : Scope := ⟨.function, [("self", .local), ("tree", .local)], false, false, []⟩
theorem hS_Word_fits : defScope st_Word_fits = S_Word_fits := by rfl
abbrev st_Run_fits : Stmt := (inClass (topZ 4) 3)
def S_Run_fits : Scope := ⟨.function, [("self", .cell), ("tree", .local), ("len", .globalImplicit), ("all", .globalImplicit)], false, false, [("fast", .str "self"), ("fast", .str "tree"), ("fast", .str "sign")]⟩
theorem hS_Run_fits : defScope st_Run_fits = S_Run_fits := by rfl
abbrev st_Row_fits : Stmt := (inClass (topZ 5) 4)
def S_Row_fits : Scope := ⟨.function, [("self", .local), ("tree", .local), ("len", .globalImplicit), ("all", .globalImplicit), ("zip", .globalImplicit)], false, false, [("fast", .str "self"), ("fast", .str "tree"), ("fast", .str "part"), ("fast", .str "one")]⟩
theorem hS_Row_fits : defScope st_Row_fits = S_Row_fits := by rfl
abbrev st_Pick_fits : Stmt := (inClass (topZ 6) 5)
def S_Pick_fits : Scope := ⟨.function, [("self", .local), ("tree", .local), ("len", .globalImplicit)], false, false, []⟩
theorem hS_Pick_fits : defScope st_Pick_fits = S_Pick_fits := by rfl
abbrev st_Many_fits : Stmt := (inClass (topZ 7) 4)
def S_Many_fits : Scope := ⟨.function, [("self", .cell), ("tree", .local), ("all", .globalImplicit)], false, false, [("fast", .str "self"), ("fast", .str "tree"), ("fast", .str "one")]⟩
theorem hS_Many_fits : defScope st_Many_fits = S_Many_fits := by rfl
abbrev st_L_told : Stmt := (topZ 19)
def S_L_told : Scope := ⟨.function, [("_law_kind_here", .cell), ("_law_tree_here", .local), ("_law_told", .globalImplicit), ("enumerate", .globalImplicit)], false, false, [("fast", .str "_law_kind_here"), ("fast", .str "_law_tree_here"), ("fast", .str "_law_one"), ("fast", .str "_law_j")]⟩
theorem hS_L_told : defScope st_L_told = S_L_told := by rfl
abbrev st_Kind_told : Stmt := (inClass (topZ 2) 8)
def S_Kind_told : Scope := ⟨.function, [("self", .local), ("tree", .local)], false, false, []⟩
theorem hS_Kind_told : defScope st_Kind_told = S_Kind_told := by rfl
abbrev st_Word_told : Stmt := (inClass (topZ 3) 4)
def S_Word_told : Scope := ⟨.function, [("self", .local), ("tree", .local)], false, false, []⟩
theorem hS_Word_told : defScope st_Word_told = S_Word_told := by rfl
abbrev st_Run_told : Stmt := (inClass (topZ 4) 4)
def S_Run_told : Scope := ⟨.function, [("self", .local), ("tree", .local)], false, false, []⟩
theorem hS_Run_told : defScope st_Run_told = S_Run_told := by rfl
abbrev st_Row_told : Stmt := (inClass (topZ 5) 5)
def S_Row_told : Scope := ⟨.function, [("self", .local), ("tree", .local), ("zip", .globalImplicit)], false, false, [("fast", .str "self"), ("fast", .str "tree"), ("fast", .str "part"), ("fast", .str "one")]⟩
theorem hS_Row_told : defScope st_Row_told = S_Row_told := by rfl
abbrev st_Pick_told : Stmt := (inClass (topZ 6) 6)
def S_Pick_told : Scope := ⟨.function, [("self", .local), ("tree", .local)], false, false, []⟩
theorem hS_Pick_told : defScope st_Pick_told = S_Pick_told := by rfl
abbrev st_Many_told : Stmt := (inClass (topZ 7) 5)
def S_Many_told : Scope := ⟨.function, [("self", .cell), ("tree", .local)], false, false, [("fast", .str "self"), ("fast", .str "tree"), ("fast", .str "one")]⟩
theorem hS_Many_told : defScope st_Many_told = S_Many_told := by rfl
abbrev st_L_is_so : Stmt := (topZ 23)
def S_L_is_so : Scope := ⟨.function, [("_law_found", .local), ("_law_kind_here", .local), ("_law_tree_here", .local), ("_law_due", .local), ("_law_word_here", .local), ("_law_text", .local), ("_law_fits", .globalImplicit), ("isinstance", .globalImplicit), ("bool", .globalImplicit), ("_law_told", .globalImplicit)], false, false, []⟩
theorem hS_L_is_so : defScope st_L_is_so = S_L_is_so := by rfl
abbrev st_law : Stmt := (topZ 24)
def S_law : Scope := ⟨.function, [("_law_script", .local), ("_law_k", .local), ("_law_number", .local), ("_law_kind_here", .local), ("_law_tree_here", .local), ("_law_found", .local), ("_law_j", .local), ("_law_good", .local), ("_law_one", .local), ("_law_inner_here", .local), ("_law_other", .local), ("range", .globalImplicit), ("max", .globalImplicit), ("len", .globalImplicit), ("_law_mixed", .globalImplicit), ("_law_kind", .globalImplicit), ("_law_tree", .globalImplicit), ("_law_turned", .globalImplicit), ("_law_built", .globalImplicit), ("_law_fits", .globalImplicit), ("_law_is_so", .globalImplicit), ("_law_spoilt", .globalImplicit), ("_law_inner", .globalImplicit)], false, false, []⟩
theorem hS_law : defScope st_law = S_law := by rfl
section
variable {P : Program} {w : World} {G : Gx} {mg : Str → Option Value} {base : Heap}
theorem sc_L_mixed : FnScope ["_law_script", "_law_k", "_law_cell"] ["_law_script", "_law_k"] S_L_mixed := ⟨rfl, rfl, rfl, by decide +kernel, rfl, by decide +kernel, by decide +kernel⟩
theorem ok_L_mixed {k : Nat} {f : Addr} {fd : FuncData} (Fu : Fun G.K "_law_mixed" "_law_mixed" st_L_mixed f fd) (m_len : mg "len" = none) (m_max : mg "max" = none) : FnOk P w G.K mg base (L2.CX P w) (k + 1) f fd ["_law_script", "_law_k"] (spF G f_L_mixed) :=
  ok_defS (k := k) hS_L_mixed Fu sc_L_mixed fun cdv A outer s H E hr =>
    (zs_cons (zs_set (i := 2) (pg_name (i := 2) sc_L_mixed.nd rfl (Or.inl rfl)) (z_ix rfl (hu_of hr) (z_bin op_addZ (so_add rfl) (z_var 0 (pv 0)) (z_lst (za_cons z_int za_nil))) (z_bin op_mod so_mod (z_var 1 (pv 1)) (z_blt (call_max2 rfl) so_max2 (by rfl) m_max (by decide +kernel) (za_cons z_int (za_cons (z_blt call_lenZ (so_len rfl) (by rfl) m_len (by decide +kernel) (za_cons (z_var 0 (pv 0)) za_nil)) za_nil)))) (fun _ _ => rfl))) (zs_one (zs_ret (z_bin op_mod so_mod (z_bin op_mul so_mulI (z_bin op_addZ (so_add rfl) (z_bin op_addZ (so_add rfl) (z_var 2 (pv 2)) z_int) (z_bin op_mul so_mulI (z_bin op_mul so_mulI z_int (z_var 1 (pv 1))) (z_var 1 (pv 1)))) (z_bin op_addZ (so_add rfl) z_int (z_bin op_mul so_mulI z_int (z_var 1 (pv 1))))) z_int))))

theorem sc_L_signs : FnScope ["_law_marks"] [] S_L_signs := ⟨rfl, rfl, rfl, by decide +kernel, rfl, by decide +kernel, by decide +kernel⟩
theorem ok_L_signs {k : Nat} {f : Addr} {fd : FuncData} (Fu : Fun G.K "_law_signs" "_law_signs" st_L_signs f fd) : FnOk P w G.K mg base (L2.CX P w) (k + 1) f fd [] (spF G f_L_signs) :=
  ok_defS (k := k) hS_L_signs Fu sc_L_signs fun cdv A outer s H E hr =>
    (zs_cons (zs_set (i := 0) (pg_name (i := 0) sc_L_signs.nd rfl (Or.inl rfl)) (z_str [32, 33, 34, 35, 36, 38, 39, 40, 41, 42, 43, 44, 45, 46, 47, 58, 59, 60, 61, 62, 63, 64, 91, 92, 93, 94, 95, 96, 123, 124, 125, 126, 10] (by decide +kernel))) (zs_one (zs_ret (z_bin op_addZ (so_add rfl) (z_bin op_addZ (so_add rfl) (z_bin op_addZ (so_add rfl) (z_var 0 (pv 0)) (z_str [48, 49, 50, 51, 52, 53, 54, 55, 56, 57] (by decide +kernel))) (z_str [97, 98, 99, 100, 101, 102, 103, 104, 105, 106, 107, 108, 109, 110, 111, 112, 113, 114, 115, 116, 117, 118, 119, 120, 121, 122] (by decide +kernel))) (z_str [65, 66, 67, 68, 69, 70, 71, 72, 73, 74, 75, 76, 77, 78, 79, 80, 81, 82, 83, 84, 85, 86, 87, 88, 89, 90] (by decide +kernel))))))

theorem sc_L_run : FnScope ["_law_number", "_law_wide", "_law_some", "_law_first", "_law_many", "_law_least", "_law_signs_here", "_law_j"] ["_law_number", "_law_wide"] S_L_run := ⟨rfl, rfl, rfl, by decide +kernel, rfl, by decide +kernel, by decide +kernel⟩
theorem ok_L_run {k : Nat} {f : Addr} {fd : FuncData} (Fu : Fun G.K "_law_run" "_law_run" st_L_run f fd) (m_len : mg "len" = none) (m_max : mg "max" = none) (m_range : mg "range" = none) (g_L_signs : GFn P w G mg base "_law_signs" k f_L_signs []) : FnOk P w G.K mg base (L2.CX P w) (k + 1) f fd ["_law_number", "_law_wide"] (spF G f_L_run) :=
  ok_defS (k := k) hS_L_run Fu sc_L_run fun cdv A outer s H E hr =>
    (zs_cons (zs_set (i := 2) (pg_name (i := 2) sc_L_run.nd rfl (Or.inr rfl)) (z_g0 g_L_signs rfl hr (pz_takes (takes_of rfl rfl rfl rfl)) (by rfl))) (zs_cons (zs_set (i := 3) (pg_name (i := 3) sc_L_run.nd rfl (Or.inr rfl)) (z_bin op_mod so_mod (z_var 0 (pv 0)) (z_blt call_lenZ (so_len rfl) (by rfl) m_len (by decide +kernel) (za_cons (z_var 2 (pv 2)) za_nil)))) (zs_cons (zs_set (i := 4) (pg_name (i := 4) sc_L_run.nd rfl (Or.inl rfl)) (z_bin op_addZ (so_add rfl) z_int (z_bin op_mod so_mod (z_bin op_fdiv so_div (z_var 0 (pv 0)) z_int) (z_ix rfl (hu_of hr) (z_lst (za_cons z_int (za_cons z_int (za_cons z_int (za_cons z_int za_nil))))) (z_bin op_mod so_mod (z_bin op_fdiv so_div (z_var 0 (pv 0)) z_int) z_int) (fun _ _ => rfl))))) (zs_cons (zs_set (i := 5) (pg_name (i := 5) sc_L_run.nd rfl (Or.inl rfl)) (z_bin op_mod so_mod (z_bin op_fdiv so_div (z_var 0 (pv 0)) z_int) z_int)) (zs_cons (zs_set (i := 6) (pg_name (i := 6) sc_L_run.nd rfl (Or.inl rfl)) (z_bm rfl PySem.F.plainAttrs_str PySem.F.slot_str_join PySem.F.type_str_join mt_join (so_join rfl) (z_str [] (by decide +kernel)) (za_cons (z_frz (z_lcW rfl sc_L_run.nd (zi_wk (zi_rng1 (by rfl) m_range (za_cons (z_var 4 (pv 4)) za_nil))) (blkOk_by (own := [("_law_j", 7)]) (N := ["_law_number", "_law_wide", "_law_some", "_law_first", "_law_many", "_law_least", "_law_signs_here", "_law_j"]) (sc := S_L_run) (by decide +kernel)) rfl (zg_name 7) (by decide) (fun _ _ _ _ _ => (pg_name (i := 7) sc_L_run.nd rfl (Or.inl rfl))) (fun _ _ _ _ _ => zts_nil) (fun _ _ _ _ _ => (z_ix rfl (hu_of hr) (z_bin op_addZ (so_add rfl) (z_var 2 (pv 2)) (z_var 2 (pv 2))) (z_bin op_addZ (so_add rfl) (z_var 3 (pv 3)) (z_var 7 (pv 7))) (fun _ _ => rfl))))) za_nil))) (zs_one (zs_ret (z_tup (za_cons (z_str [114, 117, 110] (by decide +kernel)) (za_cons (z_var 6 (pv 6)) (za_cons (z_var 5 (pv 5)) (za_cons (z_bin op_addZ (so_add rfl) (z_blt (call_max2 rfl) so_max2 (by rfl) m_max (by decide +kernel) (za_cons z_int (za_cons (z_var 5 (pv 5)) za_nil))) (z_bin op_mod so_mod (z_bin op_fdiv so_div (z_var 0 (pv 0)) z_int) (z_ix rfl (hu_of hr) (z_lst (za_cons z_int (za_cons z_int (za_cons (z_var 1 (pv 1)) za_nil)))) (z_bin op_mod so_mod (z_bin op_fdiv so_div (z_var 0 (pv 0)) z_int) z_int) (fun _ _ => rfl)))) za_nil))))))))))))

theorem sc_L_turned : FnScope ["_law_number", "_law_k"] ["_law_number", "_law_k"] S_L_turned := ⟨rfl, rfl, rfl, by decide +kernel, rfl, by decide +kernel, by decide +kernel⟩
theorem ok_L_turned {k : Nat} {f : Addr} {fd : FuncData} (Fu : Fun G.K "_law_turned" "_law_turned" st_L_turned f fd) : FnOk P w G.K mg base (L2.CX P w) (k + 1) f fd ["_law_number", "_law_k"] (spF G f_L_turned) :=
  ok_defS (k := k) hS_L_turned Fu sc_L_turned fun cdv A outer s H E hr =>
    (zs_one (zs_ret (z_bin op_mod so_mod (z_bin op_mul so_mulI (z_bin op_addZ (so_add rfl) (z_bin op_addZ (so_add rfl) (z_var 0 (pv 0)) z_int) (z_bin op_mul so_mulI (z_bin op_mul so_mulI z_int (z_var 1 (pv 1))) (z_var 1 (pv 1)))) (z_ix rfl (hu_of hr) (z_lst (za_cons z_int (za_cons z_int (za_cons z_int (za_cons z_int za_nil))))) (z_bin op_mod so_mod (z_var 1 (pv 1)) z_int) (fun _ _ => rfl))) z_int)))

theorem sc_L_word : FnScope ["_law_number", "_law_size", "_law_some", "_law_j"] ["_law_number", "_law_size"] S_L_word := ⟨rfl, rfl, rfl, by decide +kernel, rfl, by decide +kernel, by decide +kernel⟩
theorem ok_L_word {k : Nat} {f : Addr} {fd : FuncData} (Fu : Fun G.K "_law_word" "_law_word" st_L_word f fd) (m_len : mg "len" = none) (m_range : mg "range" = none) (g_L_signs : GFn P w G mg base "_law_signs" k f_L_signs []) (g_L_turned : GFn P w G mg base "_law_turned" k f_L_turned []) : FnOk P w G.K mg base (L2.CX P w) (k + 1) f fd ["_law_number", "_law_size"] (spF G f_L_word) :=
  ok_defS (k := k) hS_L_word Fu sc_L_word fun cdv A outer s H E hr =>
    (zs_cons (zs_set (i := 2) (pg_name (i := 2) sc_L_word.nd rfl (Or.inr rfl)) (z_g0 g_L_signs rfl hr (pz_takes (takes_of rfl rfl rfl rfl)) (by rfl))) (zs_one (zs_ret (z_bm rfl PySem.F.plainAttrs_str PySem.F.slot_str_join PySem.F.type_str_join mt_join (so_join rfl) (z_str [] (by decide +kernel)) (za_cons (z_frz (z_lcW rfl sc_L_word.nd (zi_wk (zi_rng1 (by rfl) m_range (za_cons (z_var 1 (pv 1)) za_nil))) (blkOk_by (own := [("_law_j", 3)]) (N := ["_law_number", "_law_size", "_law_some", "_law_j"]) (sc := S_L_word) (by decide +kernel)) rfl (zg_name 3) (by decide) (fun _ _ _ _ _ => (pg_name (i := 3) sc_L_word.nd rfl (Or.inl rfl))) (fun _ _ _ _ _ => zts_nil) (fun _ _ _ _ _ => (z_ix rfl (hu_of hr) (z_var 2 (pv 2)) (z_bin op_mod so_mod (z_g g_L_turned rfl hr pz_never (by rfl) (za_cons (z_var 0 (pv 0)) (za_cons (z_bin op_addZ (so_add rfl) z_int (z_var 3 (pv 3))) za_nil))) (z_blt call_lenZ (so_len rfl) (by rfl) m_len (by decide +kernel) (za_cons (z_var 2 (pv 2)) za_nil))) (fun _ _ => rfl))))) za_nil)))))

theorem sc_L_kind : FnScope ["_law_number", "_law_deep", "_law_way", "_law_more", "_law_size", "_law_parts", "_law_j", "_law_part"] ["_law_number", "_law_deep"] S_L_kind := ⟨rfl, rfl, rfl, by decide +kernel, rfl, by decide +kernel, by decide +kernel⟩
theorem ok_L_kind {k : Nat} {T : Nat → Fn} {f : Addr} {fd : FuncData} (Fu : Fun G.K "_law_kind" "_law_kind" st_L_kind f fd) (m_int : mg "int" = none) (m_min : mg "min" = none) (m_range : mg "range" = none) (g_L_word : GFn P w G mg base "_law_word" k f_L_word []) (g_L_run : GFn P w G mg base "_law_run" k f_L_run []) (g_L_kind : GFn P w G mg base "_law_kind" k (T 0) []) (g_L_turned : GFn P w G mg base "_law_turned" k f_L_turned []) : FnOk P w G.K mg base (L2.CX P w) (k + 1) f fd ["_law_number", "_law_deep"] (spF G (b_L_kind T)) :=
  ok_defS (k := k) hS_L_kind Fu sc_L_kind fun cdv A outer s H E hr =>
    (zs_cons (zs_set (i := 2) (pg_name (i := 2) sc_L_kind.nd rfl (Or.inl rfl)) (z_bin op_mod so_mod (z_var 0 (pv 0)) z_int)) (zs_cons (zs_set (i := 3) (pg_name (i := 3) sc_L_kind.nd rfl (Or.inr rfl)) (z_bin op_fdiv so_div (z_var 0 (pv 0)) z_int)) (zs_cons (zs_if (PW.pt (zw_or (zt_cmp op_ltZ so_lt (z_var 2 (pv 2)) z_int (nomark _)) (zw_or1 (PW.pt (zw_and (zt_cmp op_ltZ so_lt (z_var 1 (pv 1)) z_int (nomark _)) (zw_and1 (zt_cmp op_gtZ so_gt (z_var 2 (pv 2)) z_int (nomark _)))))))) (zs_one (zs_ret (z_tup (za_cons (z_str [119, 111, 114, 100] (by decide +kernel)) (za_cons (z_g g_L_word rfl hr (pz_takes (takes_of rfl rfl rfl rfl)) (by rfl) (za_cons (z_bin op_fdiv so_div (z_var 3 (pv 3)) z_int) (za_cons (z_ix rfl (hu_of hr) (z_lst (za_cons z_int (za_cons z_int (za_cons z_int (za_cons z_int (za_cons z_int (za_cons z_int (za_cons z_int (za_cons (z_ix rfl (hu_of hr) (z_lst (za_cons z_int (za_cons z_int za_nil))) (z_bty call_int1 so_int (by rfl) m_int (by decide +kernel) (za_cons (z_cmp op_gtZ so_gt (z_var 1 (pv 1)) z_int (nomark _)) za_nil)) (fun _ _ => rfl)) za_nil))))))))) (z_bin op_mod so_mod (z_var 3 (pv 3)) z_int) (fun _ _ => rfl)) za_nil))) za_nil))))) zs_nil) (zs_cons (zs_if (zt_cmp op_ltZ so_lt (z_var 2 (pv 2)) z_int (nomark _)) (zs_one (zs_ret (z_g g_L_run rfl hr (pz_takes (takes_of rfl rfl rfl rfl)) (by rfl) (za_cons (z_var 3 (pv 3)) (za_cons (z_ix rfl (hu_of hr) (z_lst (za_cons z_int (za_cons z_int za_nil))) (z_bty call_int1 so_int (by rfl) m_int (by decide +kernel) (za_cons (z_cmp op_gtZ so_gt (z_var 1 (pv 1)) z_int (nomark _)) za_nil)) (fun _ _ => rfl)) za_nil))))) zs_nil) (zs_cons (zs_if (zt_cmp op_ltZ so_lt (z_var 2 (pv 2)) z_int (nomark _)) (zs_cons (zs_set (i := 4) (pg_name (i := 4) sc_L_kind.nd rfl (Or.inl rfl)) (z_ix rfl (hu_of hr) (z_lst (za_cons (z_ix rfl (hu_of hr) (z_lst (za_cons z_int (za_cons z_int (za_cons z_int (za_cons z_int (za_cons z_int (za_cons z_int za_nil))))))) (z_bin op_mod so_mod (z_var 3 (pv 3)) z_int) (fun _ _ => rfl)) (za_cons (z_bin op_addZ (so_add rfl) z_int (z_bin op_mod so_mod (z_var 3 (pv 3)) z_int)) za_nil))) (z_bty call_int1 so_int (by rfl) m_int (by decide +kernel) (za_cons (z_cmp (op_eqP hr.units) (so_eq rfl) (z_var 2 (pv 2)) z_int (nomark _)) za_nil)) (fun _ _ => rfl))) (zs_cons (zs_set (i := 4) (pg_name (i := 4) sc_L_kind.nd rfl (Or.inl rfl)) (z_blt (call_min2 rfl) so_min2 (by rfl) m_min (by decide +kernel) (za_cons (z_var 4 (pv 4)) (za_cons (z_ix rfl (hu_of hr) (z_lst (za_cons z_int (za_cons z_int za_nil))) (z_bty call_int1 so_int (by rfl) m_int (by decide +kernel) (za_cons (z_cmp (op_eqP hr.units) (so_eq rfl) (z_var 1 (pv 1)) z_int (nomark _)) za_nil)) (fun _ _ => rfl)) za_nil)))) (zs_cons (zs_setLcW (fun _ _ _ q => frz_reads q) (i := 5) rfl sc_L_kind.nd rfl rfl (sw_true rfl rfl rfl (by decide +kernel)) (zi_wk (zi_rng1 (by rfl) m_range (za_cons (z_var 4 (pv 4)) za_nil))) (blkOk_by (own := [("_law_j", 6)]) (N := ["_law_number", "_law_deep", "_law_way", "_law_more", "_law_size", "_law_parts", "_law_j", "_law_part"]) (sc := S_L_kind) (by decide +kernel)) rfl (zg_name 6) (by decide) (fun _ _ _ _ _ => (pg_name (i := 6) sc_L_kind.nd rfl (Or.inl rfl))) (fun _ _ _ _ _ => zts_nil) (fun _ _ _ _ _ => (z_g g_L_kind rfl hr pz_never (by rfl) (za_cons (z_g g_L_turned rfl hr pz_never (by rfl) (za_cons (z_var 3 (pv 3)) (za_cons (z_var 6 (pv 6)) za_nil))) (za_cons (z_bin op_sub so_sub (z_var 1 (pv 1)) z_int) za_nil))))) (zs_one (zs_ret (z_tup (za_cons (z_ix rfl (hu_of hr) (z_lst (za_cons (z_str [114, 111, 119] (by decide +kernel)) (za_cons (z_str [112, 105, 99, 107] (by decide +kernel)) za_nil))) (z_bty call_int1 so_int (by rfl) m_int (by decide +kernel) (za_cons (z_cmp (op_eqP hr.units) (so_eq rfl) (z_var 2 (pv 2)) z_int (nomark _)) za_nil)) (fun _ _ => rfl)) (za_cons (z_var 5 (pv 5)) za_nil)))))))) zs_nil) (zs_cons (zs_set (i := 7) (pg_name (i := 7) sc_L_kind.nd rfl (Or.inl rfl)) (z_g g_L_kind rfl hr (pz_takes (takes_of rfl rfl rfl rfl)) (by rfl) (za_cons (z_g g_L_turned rfl hr (pz_takes (takes_of rfl rfl rfl rfl)) (by rfl) (za_cons (z_var 3 (pv 3)) (za_cons z_int za_nil))) (za_cons (z_bin op_sub so_sub (z_var 1 (pv 1)) z_int) za_nil)))) (zs_one (zs_ret (z_tup (za_cons (z_str [109, 97, 110, 121] (by decide +kernel)) (za_cons (z_var 7 (pv 7)) (za_cons (z_g g_L_word rfl hr (pz_takes (takes_of rfl rfl rfl rfl)) (by rfl) (za_cons (z_bin op_fdiv so_div (z_var 3 (pv 3)) z_int) (za_cons (z_ix rfl (hu_of hr) (z_lst (za_cons z_int (za_cons z_int (za_cons z_int (za_cons z_int (za_cons z_int (za_cons z_int za_nil))))))) (z_bin op_mod so_mod (z_var 3 (pv 3)) z_int) (fun _ _ => rfl)) za_nil))) za_nil))))))))))))

theorem sc_L_tree : FnScope ["_law_kind_here", "_law_number", "_law_size", "_law_j", "_law_place", "_law_some", "_law_one"] ["_law_kind_here", "_law_number"] S_L_tree := ⟨rfl, rfl, rfl, by decide +kernel, rfl, by decide +kernel, by decide +kernel⟩
theorem ok_L_tree {k : Nat} {T : Nat → Fn} {f : Addr} {fd : FuncData} (Fu : Fun G.K "_law_tree" "_law_tree" st_L_tree f fd) (m_enumerate : mg "enumerate" = none) (m_len : mg "len" = none) (m_range : mg "range" = none) (m_tuple : mg "tuple" = none) (g_L_turned : GFn P w G mg base "_law_turned" k f_L_turned []) (g_L_tree : GFn P w G mg base "_law_tree" k (T 0) []) : FnOk P w G.K mg base (L2.CX P w) (k + 1) f fd ["_law_kind_here", "_law_number"] (spF G (b_L_tree T)) :=
  ok_defS (k := k) hS_L_tree Fu sc_L_tree fun cdv A outer s H E hr =>
    (zs_cons (zs_if (zt_cmp (op_eqP hr.units) (so_eq rfl) (z_ix rfl (hu_of hr) (z_var 0 (pv 0)) z_int (fun _ _ => rfl)) (z_str [119, 111, 114, 100] (by decide +kernel)) (nomark _)) (zs_one (zs_ret (z_var 0 (pv 0)))) zs_nil) (zs_cons (zs_if (zt_cmp (op_eqP hr.units) (so_eq rfl) (z_ix rfl (hu_of hr) (z_var 0 (pv 0)) z_int (fun _ _ => rfl)) (z_str [114, 117, 110] (by decide +kernel)) (nomark _)) (zs_cons (zs_set (i := 2) (pg_name (i := 2) sc_L_tree.nd rfl (Or.inl rfl)) (z_bin op_addZ (so_add rfl) (z_ix rfl (hu_of hr) (z_var 0 (pv 0)) z_int (fun _ _ => rfl)) (z_bin op_mod so_mod (z_var 1 (pv 1)) (z_bin op_addZ (so_add rfl) (z_bin op_sub so_sub (z_ix rfl (hu_of hr) (z_var 0 (pv 0)) z_int (fun _ _ => rfl)) (z_ix rfl (hu_of hr) (z_var 0 (pv 0)) z_int (fun _ _ => rfl))) z_int)))) (zs_one (zs_ret (z_tup (za_cons (z_str [114, 117, 110] (by decide +kernel)) (za_cons (z_bm rfl PySem.F.plainAttrs_str PySem.F.slot_str_join PySem.F.type_str_join mt_join (so_join rfl) (z_str [] (by decide +kernel)) (za_cons (z_frz (by exact (z_lcW rfl sc_L_tree.nd (zi_wk (zi_rng1 (by rfl) m_range (za_cons (z_var 2 (pv 2)) za_nil))) (blkOk_by (own := [("_law_j", 3)]) (N := ["_law_kind_here", "_law_number", "_law_size", "_law_j", "_law_place", "_law_some", "_law_one"]) (sc := S_L_tree) (by decide +kernel)) rfl (zg_name 3) (by decide) (fun _ _ _ _ _ => (pg_name (i := 3) sc_L_tree.nd rfl (Or.inl rfl))) (fun _ _ _ _ _ => zts_nil) (fun _ _ _ _ _ => (z_ix rfl (hu_of hr) (z_ix rfl (hu_of hr) (z_var 0 (pv 0)) z_int (fun _ _ => rfl)) (z_bin op_mod so_mod (z_g g_L_turned rfl hr pz_never (by rfl) (za_cons (z_var 1 (pv 1)) (za_cons (z_var 3 (pv 3)) za_nil))) (z_blt call_lenZ (so_len rfl) (by rfl) m_len (by decide +kernel) (za_cons (z_ix rfl (hu_of hr) (z_var 0 (pv 0)) z_int (fun _ _ => rfl)) za_nil))) (fun _ _ => rfl)))))) za_nil)) za_nil)))))) zs_nil) (zs_cons (zs_if (zt_cmp (op_eqP hr.units) (so_eq rfl) (z_ix rfl (hu_of hr) (z_var 0 (pv 0)) z_int (fun _ _ => rfl)) (z_str [112, 105, 99, 107] (by decide +kernel)) (nomark _)) (zs_cons (zs_set (i := 4) (pg_name (i := 4) sc_L_tree.nd rfl (Or.inl rfl)) (z_bin op_mod so_mod (z_var 1 (pv 1)) (z_blt call_lenZ (so_len rfl) (by rfl) m_len (by decide +kernel) (za_cons (z_ix rfl (hu_of hr) (z_var 0 (pv 0)) z_int (fun _ _ => rfl)) za_nil)))) (zs_one (zs_ret (z_tup (za_cons (z_str [112, 105, 99, 107] (by decide +kernel)) (za_cons (z_var 4 (pv 4)) (za_cons (z_g g_L_tree rfl hr (pz_takes (takes_of rfl rfl rfl rfl)) (by rfl) (za_cons (z_ix rfl (hu_of hr) (z_ix rfl (hu_of hr) (z_var 0 (pv 0)) z_int (fun _ _ => rfl)) (z_var 4 (pv 4)) (fun _ _ => rfl)) (za_cons (z_g g_L_turned rfl hr (pz_takes (takes_of rfl rfl rfl rfl)) (by rfl) (za_cons (z_var 1 (pv 1)) (za_cons z_int za_nil))) za_nil))) za_nil))))))) zs_nil) (zs_cons (zs_set (i := 5) (pg_name (i := 5) sc_L_tree.nd rfl (Or.inl rfl)) (z_ix rfl (hu_of hr) (z_var 0 (pv 0)) z_int (fun _ _ => rfl))) (zs_cons (zs_if (zt_cmp (op_eqP hr.units) (so_eq rfl) (z_ix rfl (hu_of hr) (z_var 0 (pv 0)) z_int (fun _ _ => rfl)) (z_str [109, 97, 110, 121] (by decide +kernel)) (nomark _)) (zs_one (zs_set (i := 5) (pg_name (i := 5) sc_L_tree.nd rfl (Or.inl rfl)) (z_bin op_rep so_rep (z_lstC (za_cons (z_ix rfl (hu_of hr) (z_var 0 (pv 0)) z_int (fun _ _ => rfl)) za_nil)) (z_bin op_mod so_mod (z_var 1 (pv 1)) z_int)))) zs_nil) (zs_one (zs_ret (z_tup (za_cons (z_ix rfl (hu_of hr) (z_var 0 (pv 0)) z_int (fun _ _ => rfl)) (za_cons (z_bty call_tuple_of (so_tuple rfl) (by rfl) m_tuple (by decide +kernel) (za_cons (z_frz (by exact (z_lcW rfl sc_L_tree.nd (zi_enumM rfl (by rfl) m_enumerate (za_cons (z_var 5 (pv 5)) za_nil)) (blkOk_by (own := [("_law_j", 3), ("_law_one", 6)]) (N := ["_law_kind_here", "_law_number", "_law_size", "_law_j", "_law_place", "_law_some", "_law_one"]) (sc := S_L_tree) (by decide +kernel)) rfl (zg_tup (.cons (zg_name 3) (.cons (zg_name 6) .nil)) (len_cons (len_cons len_nil))) (by decide) (fun _ _ _ _ _ => (pg_tup rfl (pgs_cons (pg_name (i := 3) sc_L_tree.nd rfl (Or.inl rfl)) (pgs_cons (pg_name (i := 6) sc_L_tree.nd rfl (Or.inl rfl)) pgs_nil)))) (fun _ _ _ _ _ => zts_nil) (fun _ _ _ _ _ => (z_g g_L_tree rfl hr pz_never (by rfl) (za_cons (z_var 6 (pv 6)) (za_cons (z_g g_L_turned rfl hr pz_never (by rfl) (za_cons (z_var 1 (pv 1)) (za_cons (z_var 3 (pv 3)) za_nil))) za_nil))))))) za_nil)) za_nil))))))))))

theorem sc_Many_init : FnScope ["self", "part", "between"] ["self", "part", "between"] S_Many_init := ⟨rfl, rfl, rfl, by decide +kernel, rfl, by decide +kernel, by decide +kernel⟩
theorem ok_Many_init {k : Nat} {f : Addr} {fd : FuncData} (Fu : FunV G.K "__init__" "Many.__init__" st_Many_init [.str ""] f fd) (CT : CtOk G ct) : FnOk P w G.K mg base (L2.CX P w) (k + 1) f fd ["self", "part", "between"] (spF G f_Many_init) :=
  ok_defV (k := k) hS_Many_init Fu sc_Many_init fun cdv A outer s H E hr =>
    (zs_cons (zs_fld CT "part" rfl rfl (z_var 0 (pv 0)) (z_var 1 (pv 1))) (zs_one (zs_fld CT "between" rfl rfl (z_var 0 (pv 0)) (z_var 2 (pv 2)))))

theorem sc_Word_init : FnScope ["self", "text"] ["self", "text"] S_Word_init := ⟨rfl, rfl, rfl, by decide +kernel, rfl, by decide +kernel, by decide +kernel⟩
theorem ok_Word_init {k : Nat} {f : Addr} {fd : FuncData} (Fu : Fun G.K "__init__" "Word.__init__" st_Word_init f fd) (CT : CtOk G ct) : FnOk P w G.K mg base (L2.CX P w) (k + 1) f fd ["self", "text"] (spF G f_Word_init) :=
  ok_defS (k := k) hS_Word_init Fu sc_Word_init fun cdv A outer s H E hr =>
    (zs_one (zs_fld CT "text" rfl rfl (z_var 0 (pv 0)) (z_var 1 (pv 1))))

theorem sc_Run_init : FnScope ["self", "signs", "least", "most"] ["self", "signs", "least", "most"] S_Run_init := ⟨rfl, rfl, rfl, by decide +kernel, rfl, by decide +kernel, by decide +kernel⟩
theorem ok_Run_init {k : Nat} {f : Addr} {fd : FuncData} (Fu : Fun G.K "__init__" "Run.__init__" st_Run_init f fd) (CT : CtOk G ct) : FnOk P w G.K mg base (L2.CX P w) (k + 1) f fd ["self", "signs", "least", "most"] (spF G f_Run_init) :=
  ok_defS (k := k) hS_Run_init Fu sc_Run_init fun cdv A outer s H E hr =>
    (zs_cons (zs_fld CT "signs" rfl rfl (z_var 0 (pv 0)) (z_var 1 (pv 1))) (zs_cons (zs_fld CT "least" rfl rfl (z_var 0 (pv 0)) (z_var 2 (pv 2))) (zs_one (zs_fld CT "most" rfl rfl (z_var 0 (pv 0)) (z_var 3 (pv 3))))))

theorem sc_Row_init : FnScope ["self", "parts"] ["self", "parts"] S_Row_init := ⟨rfl, rfl, rfl, by decide +kernel, rfl, by decide +kernel, by decide +kernel⟩
theorem ok_Row_init {k : Nat} {f : Addr} {fd : FuncData} (Fu : FunV G.K "__init__" "Row.__init__" st_Row_init [.non] f fd) (m_list : mg "list" = none) (CT : CtOk G ct) : FnOk P w G.K mg base (L2.CX P w) (k + 1) f fd ["self", "parts"] (spF G f_Row_init) :=
  ok_defV (k := k) hS_Row_init Fu sc_Row_init fun cdv A outer s H E hr =>
    (zs_cons (zs_fld CT "parts" rfl rfl (z_var 0 (pv 0)) (z_lst za_nil)) (zs_one (zs_if (zt_cmp op_notN so_notN (z_var 1 (pv 1)) z_non (nomark _)) (zs_one (zs_fld CT "parts" rfl rfl (z_var 0 (pv 0)) (z_bty call_list_of (so_list rfl) (by rfl) m_list (by decide +kernel) (za_cons (z_var 1 (pv 1)) za_nil)))) zs_nil)))

theorem sc_Pick_init : FnScope ["self", "parts"] ["self", "parts"] S_Pick_init := ⟨rfl, rfl, rfl, by decide +kernel, rfl, by decide +kernel, by decide +kernel⟩
theorem ok_Pick_init {k : Nat} {f : Addr} {fd : FuncData} (Fu : Fun G.K "__init__" "Pick.__init__" st_Pick_init f fd) (m_list : mg "list" = none) (CT : CtOk G ct) : FnOk P w G.K mg base (L2.CX P w) (k + 1) f fd ["self", "parts"] (spF G f_Pick_init) :=
  ok_defS (k := k) hS_Pick_init Fu sc_Pick_init fun cdv A outer s H E hr =>
    (zs_one (zs_fld CT "parts" rfl rfl (z_var 0 (pv 0)) (z_bty call_list_of (so_list rfl) (by rfl) m_list (by decide +kernel) (za_cons (z_var 1 (pv 1)) za_nil))))

theorem sc_L_built : FnScope ["_law_kind_here", "_law_one"] ["_law_kind_here"] S_L_built := ⟨rfl, rfl, rfl, by decide +kernel, rfl, by decide +kernel, by decide +kernel⟩
theorem ok_L_built {k : Nat} {T : Nat → Fn} {f : Addr} {fd : FuncData} (Fu : Fun G.K "_law_built" "_law_built" st_L_built f fd) (k_Word : KGn P w G mg base "Word" "Word" k f_Word_init []) (k_Run : KGn P w G mg base "Run" "Run" k f_Run_init []) (k_Row : KGn P w G mg base "Row" "Row" k f_Row_init []) (g_L_built : GFn P w G mg base "_law_built" k (T 0) []) (k_Pick : KGn P w G mg base "Pick" "Pick" k f_Pick_init []) (k_Many : KGn P w G mg base "Many" "Many" k f_Many_init []) : FnOk P w G.K mg base (L2.CX P w) (k + 1) f fd ["_law_kind_here"] (spF G (b_L_built T)) :=
  ok_defS (k := k) hS_L_built Fu sc_L_built fun cdv A outer s H E hr =>
    (zs_cons (zs_if (zt_cmp (op_eqP hr.units) (so_eq rfl) (z_ix rfl (hu_of hr) (z_var 0 (pv 0)) z_int (fun _ _ => rfl)) (z_str [119, 111, 114, 100] (by decide +kernel)) (nomark _)) (zs_one (zs_ret (z_frz (z_mk k_Word rfl hr (pz_takes (takes_of rfl rfl rfl rfl)) (by rfl) (za_cons (z_ix rfl (hu_of hr) (z_var 0 (pv 0)) z_int (fun _ _ => rfl)) za_nil))))) zs_nil) (zs_cons (zs_if (zt_cmp (op_eqP hr.units) (so_eq rfl) (z_ix rfl (hu_of hr) (z_var 0 (pv 0)) z_int (fun _ _ => rfl)) (z_str [114, 117, 110] (by decide +kernel)) (nomark _)) (zs_one (zs_ret (z_frz (z_mk k_Run rfl hr (pz_takes (takes_of rfl rfl rfl rfl)) (by rfl) (za_cons (z_ix rfl (hu_of hr) (z_var 0 (pv 0)) z_int (fun _ _ => rfl)) (za_cons (z_ix rfl (hu_of hr) (z_var 0 (pv 0)) z_int (fun _ _ => rfl)) (za_cons (z_ix rfl (hu_of hr) (z_var 0 (pv 0)) z_int (fun _ _ => rfl)) za_nil))))))) zs_nil) (zs_cons (zs_if (zt_cmp (op_eqP hr.units) (so_eq rfl) (z_ix rfl (hu_of hr) (z_var 0 (pv 0)) z_int (fun _ _ => rfl)) (z_str [114, 111, 119] (by decide +kernel)) (nomark _)) (zs_one (zs_ret (z_frz (z_mk k_Row rfl hr (pz_takes (takes_of rfl rfl rfl rfl)) (by rfl) (za_cons (z_frz (z_lcW rfl sc_L_built.nd (zi_seqW rfl (z_ix rfl (hu_of hr) (z_var 0 (pv 0)) z_int (fun _ _ => rfl))) (blkOk_by (own := [("_law_one", 1)]) (N := ["_law_kind_here", "_law_one"]) (sc := S_L_built) (by decide +kernel)) rfl (zg_name 1) (by decide) (fun _ _ _ _ _ => (pg_name (i := 1) sc_L_built.nd rfl (Or.inl rfl))) (fun _ _ _ _ _ => zts_nil) (fun _ _ _ _ _ => (z_g g_L_built rfl hr pz_never (by rfl) (za_cons (z_var 1 (pv 1)) za_nil))))) za_nil))))) zs_nil) (zs_cons (zs_if (zt_cmp (op_eqP hr.units) (so_eq rfl) (z_ix rfl (hu_of hr) (z_var 0 (pv 0)) z_int (fun _ _ => rfl)) (z_str [112, 105, 99, 107] (by decide +kernel)) (nomark _)) (zs_one (zs_ret (z_frz (z_mk k_Pick rfl hr (pz_takes (takes_of rfl rfl rfl rfl)) (by rfl) (za_cons (z_frz (z_lcW rfl sc_L_built.nd (zi_seqW rfl (z_ix rfl (hu_of hr) (z_var 0 (pv 0)) z_int (fun _ _ => rfl))) (blkOk_by (own := [("_law_one", 1)]) (N := ["_law_kind_here", "_law_one"]) (sc := S_L_built) (by decide +kernel)) rfl (zg_name 1) (by decide) (fun _ _ _ _ _ => (pg_name (i := 1) sc_L_built.nd rfl (Or.inl rfl))) (fun _ _ _ _ _ => zts_nil) (fun _ _ _ _ _ => (z_g g_L_built rfl hr pz_never (by rfl) (za_cons (z_var 1 (pv 1)) za_nil))))) za_nil))))) zs_nil) (zs_one (zs_ret (z_frz (z_mk k_Many rfl hr (pz_takes (takes_of rfl rfl rfl rfl)) (by rfl) (za_cons (z_g g_L_built rfl hr (pz_takes (takes_of rfl rfl rfl rfl)) (by rfl) (za_cons (z_ix rfl (hu_of hr) (z_var 0 (pv 0)) z_int (fun _ _ => rfl)) za_nil)) (za_cons (z_ix rfl (hu_of hr) (z_var 0 (pv 0)) z_int (fun _ _ => rfl)) za_nil))))))))))

theorem sc_L_inner : FnScope ["_law_kind_here"] ["_law_kind_here"] S_L_inner := ⟨rfl, rfl, rfl, by decide +kernel, rfl, by decide +kernel, by decide +kernel⟩
theorem ok_L_inner {k : Nat} {f : Addr} {fd : FuncData} (Fu : Fun G.K "_law_inner" "_law_inner" st_L_inner f fd) (m_list : mg "list" = none) : FnOk P w G.K mg base (L2.CX P w) (k + 1) f fd ["_law_kind_here"] (spF G f_L_inner) :=
  ok_defS (k := k) hS_L_inner Fu sc_L_inner fun cdv A outer s H E hr =>
    (zs_cons (zs_if (zt_cmp (op_inP hr.units) (so_in rfl) (z_ix rfl (hu_of hr) (z_var 0 (pv 0)) z_int (fun _ _ => rfl)) (z_tup (za_cons (z_str [114, 111, 119] (by decide +kernel)) (za_cons (z_str [112, 105, 99, 107] (by decide +kernel)) za_nil))) (by rfl)) (zs_one (zs_ret (z_bty call_list_of (so_list rfl) (by rfl) m_list (by decide +kernel) (za_cons (z_ix rfl (hu_of hr) (z_var 0 (pv 0)) z_int (fun _ _ => rfl)) za_nil)))) zs_nil) (zs_one (zs_ret (z_ife (zt_cmp (op_eqP hr.units) (so_eq rfl) (z_ix rfl (hu_of hr) (z_var 0 (pv 0)) z_int (fun _ _ => rfl)) (z_str [109, 97, 110, 121] (by decide +kernel)) (nomark _)) (z_lst (za_cons (z_ix rfl (hu_of hr) (z_var 0 (pv 0)) z_int (fun _ _ => rfl)) za_nil)) (z_lst za_nil)))))

theorem sc_L_fits : FnScope ["_law_kind_here", "_law_tree_here", "_law_good", "_law_sign", "_law_one", "_law_j"] ["_law_kind_here", "_law_tree_here"] S_L_fits := ⟨rfl, rfl, rfl, by decide +kernel, rfl, by decide +kernel, by decide +kernel⟩
theorem ok_L_fits {k : Nat} {T : Nat → Fn} {f : Addr} {fd : FuncData} (Fu : Fun G.K "_law_fits" "_law_fits" st_L_fits f fd) (m_all : mg "all" = none) (m_enumerate : mg "enumerate" = none) (m_len : mg "len" = none) (g_L_fits : GFn P w G mg base "_law_fits" k (T 0) []) : FnOk P w G.K mg base (L2.CX P w) (k + 1) f fd ["_law_kind_here", "_law_tree_here"] (spF G (b_L_fits T)) :=
  ok_defS (k := k) hS_L_fits Fu sc_L_fits fun cdv A outer s H E hr =>
    (zs_cons (zs_if (zt_cmp (op_neP hr.units) (so_ne rfl) (z_ix rfl (hu_of hr) (z_var 1 (pv 1)) z_int (fun _ _ => rfl)) (z_ix rfl (hu_of hr) (z_var 0 (pv 0)) z_int (fun _ _ => rfl)) (nomark _)) (zs_one (zs_ret z_bl)) zs_nil) (zs_cons (zs_if (zt_cmp (op_eqP hr.units) (so_eq rfl) (z_ix rfl (hu_of hr) (z_var 0 (pv 0)) z_int (fun _ _ => rfl)) (z_str [119, 111, 114, 100] (by decide +kernel)) (nomark _)) (zs_one (zs_ret (z_cmp (op_eqP hr.units) (so_eq rfl) (z_var 1 (pv 1)) (z_var 0 (pv 0)) (nomark _)))) zs_nil) (zs_cons (zs_if (zt_cmp (op_eqP hr.units) (so_eq rfl) (z_ix rfl (hu_of hr) (z_var 0 (pv 0)) z_int (fun _ _ => rfl)) (z_str [114, 117, 110] (by decide +kernel)) (nomark _)) (zs_cons (zs_set (i := 2) (pg_name (i := 2) sc_L_fits.nd rfl (Or.inl rfl)) (z_ch op_leZ so_le op_leZ so_le (z_ix rfl (hu_of hr) (z_var 0 (pv 0)) z_int (fun _ _ => rfl)) (z_blt call_lenZ (so_len rfl) (by rfl) m_len (by decide +kernel) (za_cons (z_ix rfl (hu_of hr) (z_var 1 (pv 1)) z_int (fun _ _ => rfl)) za_nil)) (z_ix rfl (hu_of hr) (z_var 0 (pv 0)) z_int (fun _ _ => rfl)))) (zs_one (zs_ret (z_and (z_var 2 (pv 2)) (z_one (z_cmp (op_eqP hr.units) (so_eq rfl) (z_frz (z_lcW rfl sc_L_fits.nd (zi_seqW rfl (z_ix rfl (hu_of hr) (z_var 1 (pv 1)) z_int (fun _ _ => rfl))) (blkOk_by (own := [("_law_sign", 3)]) (N := ["_law_kind_here", "_law_tree_here", "_law_good", "_law_sign", "_law_one", "_law_j"]) (sc := S_L_fits) (by decide +kernel)) rfl (zg_name 3) (by decide) (fun _ _ _ _ _ => (pg_name (i := 3) sc_L_fits.nd rfl (Or.inl rfl))) (fun _ _ _ _ _ => (zts_one (zt_cmp (op_notInP hr.units) (so_notIn rfl) (z_var 3 (pv 3)) (z_ix rfl (hu_of hr) (z_var 0 (pv 0)) z_int (fun _ _ => rfl)) (by rfl)))) (fun _ _ _ _ _ => (z_var 3 (pv 3))))) (z_lst za_nil) (nomark _))))))) zs_nil) (zs_cons (zs_if (zt_cmp (op_eqP hr.units) (so_eq rfl) (z_ix rfl (hu_of hr) (z_var 0 (pv 0)) z_int (fun _ _ => rfl)) (z_str [112, 105, 99, 107] (by decide +kernel)) (nomark _)) (zs_one (zs_ret (z_and (z_ch op_leZ so_le op_ltZ so_lt z_int (z_ix rfl (hu_of hr) (z_var 1 (pv 1)) z_int (fun _ _ => rfl)) (z_blt call_lenZ (so_len rfl) (by rfl) m_len (by decide +kernel) (za_cons (z_ix rfl (hu_of hr) (z_var 0 (pv 0)) z_int (fun _ _ => rfl)) za_nil))) (z_one (z_g g_L_fits rfl hr (pz_takes (takes_of rfl rfl rfl rfl)) (by rfl) (za_cons (z_ix rfl (hu_of hr) (z_ix rfl (hu_of hr) (z_var 0 (pv 0)) z_int (fun _ _ => rfl)) (z_ix rfl (hu_of hr) (z_var 1 (pv 1)) z_int (fun _ _ => rfl)) (fun _ _ => rfl)) (za_cons (z_ix rfl (hu_of hr) (z_var 1 (pv 1)) z_int (fun _ _ => rfl)) za_nil))))))) zs_nil) (zs_cons (zs_if (zt_cmp (op_eqP hr.units) (so_eq rfl) (z_ix rfl (hu_of hr) (z_var 0 (pv 0)) z_int (fun _ _ => rfl)) (z_str [109, 97, 110, 121] (by decide +kernel)) (nomark _)) (zs_one (zs_ret (z_blt (cr_all rfl) (so_all rfl) (by rfl) m_all (by decide +kernel) (za_cons (z_frz (z_lcW rfl sc_L_fits.nd (zi_seqW rfl (z_ix rfl (hu_of hr) (z_var 1 (pv 1)) z_int (fun _ _ => rfl))) (blkOk_by (own := [("_law_one", 4)]) (N := ["_law_kind_here", "_law_tree_here", "_law_good", "_law_sign", "_law_one", "_law_j"]) (sc := S_L_fits) (by decide +kernel)) rfl (zg_name 4) (by decide) (fun _ _ _ _ _ => (pg_name (i := 4) sc_L_fits.nd rfl (Or.inl rfl))) (fun _ _ _ _ _ => zts_nil) (fun _ _ _ _ _ => (z_g g_L_fits rfl hr pz_never (by rfl) (za_cons (z_ix rfl (hu_of hr) (z_var 0 (pv 0)) z_int (fun _ _ => rfl)) (za_cons (z_var 4 (pv 4)) za_nil)))))) za_nil)))) zs_nil) (zs_cons (zs_if (zt_cmp (op_neP hr.units) (so_ne rfl) (z_blt call_lenZ (so_len rfl) (by rfl) m_len (by decide +kernel) (za_cons (z_ix rfl (hu_of hr) (z_var 1 (pv 1)) z_int (fun _ _ => rfl)) za_nil)) (z_blt call_lenZ (so_len rfl) (by rfl) m_len (by decide +kernel) (za_cons (z_ix rfl (hu_of hr) (z_var 0 (pv 0)) z_int (fun _ _ => rfl)) za_nil)) (nomark _)) (zs_one (zs_ret z_bl)) zs_nil) (zs_one (zs_ret (z_blt (cr_all rfl) (so_all rfl) (by rfl) m_all (by decide +kernel) (za_cons (z_frz (z_lcW rfl sc_L_fits.nd (zi_enumM rfl (by rfl) m_enumerate (za_cons (z_ix rfl (hu_of hr) (z_var 1 (pv 1)) z_int (fun _ _ => rfl)) za_nil)) (blkOk_by (own := [("_law_j", 5), ("_law_one", 4)]) (N := ["_law_kind_here", "_law_tree_here", "_law_good", "_law_sign", "_law_one", "_law_j"]) (sc := S_L_fits) (by decide +kernel)) rfl (zg_tup (.cons (zg_name 5) (.cons (zg_name 4) .nil)) (len_cons (len_cons len_nil))) (by decide) (fun _ _ _ _ _ => (pg_tup rfl (pgs_cons (pg_name (i := 5) sc_L_fits.nd rfl (Or.inl rfl)) (pgs_cons (pg_name (i := 4) sc_L_fits.nd rfl (Or.inl rfl)) pgs_nil)))) (fun _ _ _ _ _ => zts_nil) (fun _ _ _ _ _ => (z_g g_L_fits rfl hr pz_never (by rfl) (za_cons (z_ix rfl (hu_of hr) (z_ix rfl (hu_of hr) (z_var 0 (pv 0)) z_int (fun _ _ => rfl)) (z_var 5 (pv 5)) (fun _ _ => rfl)) (za_cons (z_var 4 (pv 4)) za_nil)))))) za_nil))))))))))

theorem sc_L_odd : FnScope ["_law_tree_here", "_law_number", "_law_some", "_law_sort", "_law_own", "_law_last"] ["_law_tree_here", "_law_number"] S_L_odd := ⟨rfl, rfl, rfl, by decide +kernel, rfl, by decide +kernel, by decide +kernel⟩
theorem ok_L_odd {k : Nat} {f : Addr} {fd : FuncData} (Fu : Fun G.K "_law_odd" "_law_odd" st_L_odd f fd) (m_len : mg "len" = none) : FnOk P w G.K mg base (L2.CX P w) (k + 1) f fd ["_law_tree_here", "_law_number"] (spF G f_L_odd) :=
  ok_defS (k := k) hS_L_odd Fu sc_L_odd fun cdv A outer s H E hr =>
    (zs_cons (zs_set (i := 2) (pg_name (i := 2) sc_L_odd.nd rfl (Or.inl rfl)) (z_lst (za_cons (z_tup (za_cons (z_str [119, 111, 114, 100] (by decide +kernel)) (za_cons (z_str [] (by decide +kernel)) za_nil))) (za_cons (z_tup (za_cons (z_str [114, 117, 110] (by decide +kernel)) (za_cons (z_str [] (by decide +kernel)) za_nil))) (za_cons (z_tup (za_cons (z_str [114, 111, 119] (by decide +kernel)) (za_cons (z_tup za_nil) za_nil))) (za_cons (z_tup (za_cons (z_str [109, 97, 110, 121] (by decide +kernel)) (za_cons (z_tup za_nil) za_nil))) (za_cons (z_tup (za_cons (z_str [112, 105, 99, 107] (by decide +kernel)) (za_cons z_int (za_cons (z_tup (za_cons (z_str [119, 111, 114, 100] (by decide +kernel)) (za_cons (z_str [] (by decide +kernel)) za_nil))) za_nil)))) (za_cons (z_tup (za_cons (z_str [114, 111, 119] (by decide +kernel)) (za_cons (z_tup (za_cons (z_var 0 (pv 0)) za_nil)) za_nil))) za_nil)))))))) (zs_cons (zs_asg (zg_tup (.cons (zg_name 3) (.cons (zg_name 4) .nil)) (len_cons (len_cons len_nil))) (pg_tup rfl (pgs_cons (pg_name (i := 3) sc_L_odd.nd rfl (Or.inl rfl)) (pgs_cons (pg_name (i := 4) sc_L_odd.nd rfl (Or.inl rfl)) pgs_nil))) (z_slA rfl (z_var 0 (pv 0)) zo_no (zo_pt z_int))) (zs_cons (zs_if (zt_cmp (op_eqP hr.units) (so_eq rfl) (z_var 3 (pv 3)) (z_str [112, 105, 99, 107] (by decide +kernel)) (nomark _)) (zs_cons (zs_set (i := 5) (pg_name (i := 5) sc_L_odd.nd rfl (Or.inl rfl)) (z_ix rfl (hu_of hr) (z_var 0 (pv 0)) z_int (fun _ _ => rfl))) (zs_one (zs_set (i := 2) (pg_name (i := 2) sc_L_odd.nd rfl (Or.inl rfl)) (z_bin op_addA (so_addA rfl) (z_var 2 (pv 2)) (z_lst (za_cons (z_tup (za_cons (z_str [112, 105, 99, 107] (by decide +kernel)) (za_cons (z_bin op_addA (so_addA rfl) (z_var 4 (pv 4)) z_int) (za_cons (z_var 5 (pv 5)) za_nil)))) (za_cons (z_tup (za_cons (z_str [112, 105, 99, 107] (by decide +kernel)) (za_cons (z_neg z_int) (za_cons (z_var 5 (pv 5)) za_nil)))) (za_cons (z_tup (za_cons (z_str [112, 105, 99, 107] (by decide +kernel)) (za_cons z_int (za_cons (z_var 5 (pv 5)) za_nil)))) (za_cons (z_var 5 (pv 5)) za_nil))))))))) (zs_one (zs_if (zt_cmp (op_inP hr.units) (so_in rfl) (z_var 3 (pv 3)) (z_tup (za_cons (z_str [114, 111, 119] (by decide +kernel)) (za_cons (z_str [109, 97, 110, 121] (by decide +kernel)) za_nil))) (by rfl)) (zs_cons (zs_set (i := 2) (pg_name (i := 2) sc_L_odd.nd rfl (Or.inl rfl)) (z_bin op_addA (so_addA rfl) (z_var 2 (pv 2)) (z_lst (za_cons (z_tup (za_cons (z_var 3 (pv 3)) (za_cons (z_bin op_addA (so_addA rfl) (z_var 4 (pv 4)) (z_tup (za_cons (z_tup (za_cons (z_str [119, 111, 114, 100] (by decide +kernel)) (za_cons (z_str [97] (by decide +kernel)) za_nil))) za_nil))) za_nil))) (za_cons (z_tup (za_cons (z_var 3 (pv 3)) (za_cons (z_slA rfl (z_var 4 (pv 4)) (zo_pt z_int) zo_no) za_nil))) (za_cons (z_tup (za_cons (z_var 3 (pv 3)) (za_cons (z_revA rfl (z_var 4 (pv 4))) za_nil))) za_nil)))))) (zs_one (zs_set (i := 2) (pg_name (i := 2) sc_L_odd.nd rfl (Or.inl rfl)) (z_bin op_addA (so_addA rfl) (z_var 2 (pv 2)) (z_lst (za_cons (z_tup (za_cons (z_str [114, 111, 119] (by decide +kernel)) (za_cons (z_var 4 (pv 4)) za_nil))) (za_cons (z_tup (za_cons (z_str [109, 97, 110, 121] (by decide +kernel)) (za_cons (z_var 4 (pv 4)) za_nil))) (za_cons (z_tup (za_cons (z_var 3 (pv 3)) (za_cons (z_bin op_addA (so_addA rfl) (z_var 4 (pv 4)) (z_slA rfl (z_var 4 (pv 4)) zo_no (zo_pt z_int))) za_nil))) za_nil)))))))) (zs_one (zs_set (i := 2) (pg_name (i := 2) sc_L_odd.nd rfl (Or.inl rfl)) (z_bin op_addA (so_addA rfl) (z_var 2 (pv 2)) (z_lst (za_cons (z_tup (za_cons (z_var 3 (pv 3)) (za_cons (z_bin op_addA (so_addA rfl) (z_var 4 (pv 4)) (z_str [97] (by decide +kernel))) za_nil))) (za_cons (z_tup (za_cons (z_var 3 (pv 3)) (za_cons (z_slA rfl (z_var 4 (pv 4)) (zo_pt z_int) zo_no) za_nil))) (za_cons (z_tup (za_cons (z_str [119, 111, 114, 100] (by decide +kernel)) (za_cons (z_var 4 (pv 4)) za_nil))) (za_cons (z_tup (za_cons (z_str [114, 117, 110] (by decide +kernel)) (za_cons (z_var 4 (pv 4)) za_nil))) za_nil))))))))))) (zs_one (zs_ret (z_ix rfl (hu_of hr) (z_var 2 (pv 2)) (z_bin op_mod so_mod (z_var 1 (pv 1)) (z_blt call_lenZ (so_len rfl) (by rfl) m_len (by decide +kernel) (za_cons (z_var 2 (pv 2)) za_nil))) (fun _ _ => rfl)))))))

theorem sc_L_spoilt : FnScope ["_law_tree_here", "_law_number", "_law_at", "_law_inner_here"] ["_law_tree_here", "_law_number"] S_L_spoilt := ⟨rfl, rfl, rfl, by decide +kernel, rfl, by decide +kernel, by decide +kernel⟩
theorem ok_L_spoilt {k : Nat} {T : Nat → Fn} {f : Addr} {fd : FuncData} (Fu : Fun G.K "_law_spoilt" "_law_spoilt" st_L_spoilt f fd) (m_len : mg "len" = none) (g_L_odd : GFn P w G mg base "_law_odd" k f_L_odd []) (g_L_spoilt : GFn P w G mg base "_law_spoilt" k (T 0) []) : FnOk P w G.K mg base (L2.CX P w) (k + 1) f fd ["_law_tree_here", "_law_number"] (spF G (b_L_spoilt T)) :=
  ok_defS (k := k) hS_L_spoilt Fu sc_L_spoilt fun cdv A outer s H E hr =>
    (zs_cons (zs_if (PW.pt (zw_or (zt_cmp (op_eqP hr.units) (so_eq rfl) (z_bin op_mod so_mod (z_var 1 (pv 1)) z_int) z_int (nomark _)) (zw_or (zt_cmp (op_inP hr.units) (so_in rfl) (z_ix rfl (hu_of hr) (z_var 0 (pv 0)) z_int (fun _ _ => rfl)) (z_tup (za_cons (z_str [119, 111, 114, 100] (by decide +kernel)) (za_cons (z_str [114, 117, 110] (by decide +kernel)) za_nil))) (by rfl)) (zw_or1 (zt_cmp (op_eqP hr.units) (so_eq rfl) (z_ix rfl (hu_of hr) (z_var 0 (pv 0)) z_int (fun _ _ => rfl)) (z_tup za_nil) (nomark _)))))) (zs_one (zs_ret (z_g g_L_odd rfl hr (pz_takes (takes_of rfl rfl rfl rfl)) (by rfl) (za_cons (z_var 0 (pv 0)) (za_cons (z_bin op_fdiv so_div (z_var 1 (pv 1)) z_int) za_nil))))) zs_nil) (zs_cons (zs_if (zt_cmp (op_eqP hr.units) (so_eq rfl) (z_ix rfl (hu_of hr) (z_var 0 (pv 0)) z_int (fun _ _ => rfl)) (z_str [112, 105, 99, 107] (by decide +kernel)) (nomark _)) (zs_one (zs_ret (z_tup (za_cons (z_str [112, 105, 99, 107] (by decide +kernel)) (za_cons (z_ix rfl (hu_of hr) (z_var 0 (pv 0)) z_int (fun _ _ => rfl)) (za_cons (z_g g_L_spoilt rfl hr (pz_takes (takes_of rfl rfl rfl rfl)) (by rfl) (za_cons (z_ix rfl (hu_of hr) (z_var 0 (pv 0)) z_int (fun _ _ => rfl)) (za_cons (z_bin op_fdiv so_div (z_var 1 (pv 1)) z_int) za_nil))) za_nil)))))) zs_nil) (zs_cons (zs_set (i := 2) (pg_name (i := 2) sc_L_spoilt.nd rfl (Or.inl rfl)) (z_bin op_mod so_mod (z_bin op_fdiv so_div (z_var 1 (pv 1)) z_int) (z_blt call_lenZ (so_len rfl) (by rfl) m_len (by decide +kernel) (za_cons (z_ix rfl (hu_of hr) (z_var 0 (pv 0)) z_int (fun _ _ => rfl)) za_nil)))) (zs_cons (zs_set (i := 3) (pg_name (i := 3) sc_L_spoilt.nd rfl (Or.inl rfl)) (z_g g_L_spoilt rfl hr (pz_takes (takes_of rfl rfl rfl rfl)) (by rfl) (za_cons (z_ix rfl (hu_of hr) (z_ix rfl (hu_of hr) (z_var 0 (pv 0)) z_int (fun _ _ => rfl)) (z_var 2 (pv 2)) (fun _ _ => rfl)) (za_cons (z_bin op_fdiv so_div (z_var 1 (pv 1)) z_int) za_nil)))) (zs_one (zs_ret (z_tup (za_cons (z_ix rfl (hu_of hr) (z_var 0 (pv 0)) z_int (fun _ _ => rfl)) (za_cons (z_bin op_addA (so_addA rfl) (z_bin op_addA (so_addA rfl) (z_slA rfl (z_ix rfl (hu_of hr) (z_var 0 (pv 0)) z_int (fun _ _ => rfl)) zo_no (zo_pt (z_var 2 (pv 2)))) (z_tup (za_cons (z_var 3 (pv 3)) za_nil))) (z_slA rfl (z_ix rfl (hu_of hr) (z_var 0 (pv 0)) z_int (fun _ _ => rfl)) (zo_pt (z_bin op_addA (so_addA rfl) (z_var 2 (pv 2)) z_int)) zo_no)) za_nil)))))))))

theorem sc_Kind_fits : FnScope ["self", "tree"] ["self", "tree"] S_Kind_fits := ⟨rfl, rfl, rfl, by decide +kernel, rfl, by decide +kernel, by decide +kernel⟩
theorem ok_Kind_fits {k : Nat} {f : Addr} {fd : FuncData} (Fu : Fun G.K "fits" "Kind.fits" st_Kind_fits f fd) : FnOk P w G.K mg base (L2.CX P w) (k + 1) f fd ["self", "tree"] (spF G f_Kind_fits) :=
  ok_defS (k := k) hS_Kind_fits Fu sc_Kind_fits fun cdv A outer s H E hr =>
    (zs_one (zs_ret z_bl))

theorem sc_Word_fits : FnScope ["self", "tree"] ["self", "tree"] S_Word_fits := ⟨rfl, rfl, rfl, by decide +kernel, rfl, by decide +kernel, by decide +kernel⟩
theorem ok_Word_fits {k : Nat} {f : Addr} {fd : FuncData} (Fu : Fun G.K "fits" "Word.fits" st_Word_fits f fd) (CT : CtOk G ct) : FnOk P w G.K mg base (L2.CX P w) (k + 1) f fd ["self", "tree"] (spF G f_Word_fits) :=
  ok_defS (k := k) hS_Word_fits Fu sc_Word_fits fun cdv A outer s H E hr =>
    (zs_one (zs_ret (z_cmp (op_eqP hr.units) (so_eq rfl) (z_var 1 (pv 1)) (z_tup (za_cons (z_str [119, 111, 114, 100] (by decide +kernel)) (za_cons (z_fld CT "text" rfl rfl (z_var 0 (pv 0))) za_nil))) (nomark _))))

theorem sc_Run_fits : FnScope ["self", "tree", "sign"] ["self", "tree"] S_Run_fits := ⟨rfl, rfl, rfl, by decide +kernel, rfl, by decide +kernel, by decide +kernel⟩
theorem ok_Run_fits {k : Nat} {f : Addr} {fd : FuncData} (Fu : Fun G.K "fits" "Run.fits" st_Run_fits f fd) (m_all : mg "all" = none) (m_len : mg "len" = none) (CT : CtOk G ct) : FnOk P w G.K mg base (L2.CX P w) (k + 1) f fd ["self", "tree"] (spF G f_Run_fits) :=
  ok_defS (k := k) hS_Run_fits Fu sc_Run_fits fun cdv A outer s H E hr =>
    (zs_cons (zs_if (PW.pt (zw_or (zt_cmp (op_neP hr.units) (so_ne rfl) (z_ix rfl (hu_of hr) (z_var 1 (pv 1)) z_int (fun _ _ => rfl)) (z_str [114, 117, 110] (by decide +kernel)) (nomark _)) (zw_or1 (zt_not (zt_ch op_leZ so_le op_leZ so_le (z_fld CT "least" rfl rfl (z_var 0 (pv 0))) (z_blt call_lenZ (so_len rfl) (by rfl) m_len (by decide +kernel) (za_cons (z_ix rfl (hu_of hr) (z_var 1 (pv 1)) z_int (fun _ _ => rfl)) za_nil)) (z_fld CT "most" rfl rfl (z_var 0 (pv 0)))))))) (zs_one (zs_ret z_bl)) zs_nil) (zs_one (zs_ret (z_blt (cr_all rfl) (so_all rfl) (by rfl) m_all (by decide +kernel) (za_cons (z_frz (z_lcW rfl sc_Run_fits.nd (zi_seqW rfl (z_ix rfl (hu_of hr) (z_var 1 (pv 1)) z_int (fun _ _ => rfl))) (blkOk_by (own := [("sign", 2)]) (N := ["self", "tree", "sign"]) (sc := S_Run_fits) (by decide +kernel)) rfl (zg_name 2) (by decide) (fun _ _ _ _ _ => (pg_name (i := 2) sc_Run_fits.nd rfl (Or.inl rfl))) (fun _ _ _ _ _ => zts_nil) (fun _ _ _ _ _ => (z_cmp (op_inP hr.units) (so_in rfl) (z_var 2 (pv 2)) (z_fld CT "signs" rfl rfl (z_var 0 (pv 0))) (by rfl))))) za_nil)))))

theorem sc_Row_fits : FnScope ["self", "tree", "one", "part"] ["self", "tree"] S_Row_fits := ⟨rfl, rfl, rfl, by decide +kernel, rfl, by decide +kernel, by decide +kernel⟩
theorem ok_Row_fits {k : Nat} {T : Nat → Fn} {f : Addr} {fd : FuncData} (Fu : Fun G.K "fits" "Row.fits" st_Row_fits f fd) (m_all : mg "all" = none) (m_len : mg "len" = none) (m_zip : mg "zip" = none) (CT : CtOk G ct) (ms_fits : MsOk P w G mg base k "fits" [("Kind", f_Kind_fits, []), ("Word", f_Word_fits, []), ("Run", f_Run_fits, []), ("Row", (T 0), []), ("Pick", (T 1), []), ("Many", (T 2), [])]) : FnOk P w G.K mg base (L2.CX P w) (k + 1) f fd ["self", "tree"] (spF G (b_Row_fits T)) :=
  ok_defS (k := k) hS_Row_fits Fu sc_Row_fits fun cdv A outer s H E hr =>
    (zs_cons (zs_if (PW.pt (zw_or (zt_cmp (op_neP hr.units) (so_ne rfl) (z_ix rfl (hu_of hr) (z_var 1 (pv 1)) z_int (fun _ _ => rfl)) (z_str [114, 111, 119] (by decide +kernel)) (nomark _)) (zw_or1 (zt_cmp (op_neP hr.units) (so_ne rfl) (z_blt call_lenZ (so_len rfl) (by rfl) m_len (by decide +kernel) (za_cons (z_ix rfl (hu_of hr) (z_var 1 (pv 1)) z_int (fun _ _ => rfl)) za_nil)) (z_blt call_lenZ (so_len rfl) (by rfl) m_len (by decide +kernel) (za_cons (z_fld CT "parts" rfl rfl (z_var 0 (pv 0))) za_nil)) (nomark _))))) (zs_one (zs_ret z_bl)) zs_nil) (zs_one (zs_ret (z_blt (cr_all rfl) (so_all rfl) (by rfl) m_all (by decide +kernel) (za_cons (z_frz (z_lcW rfl sc_Row_fits.nd (zi_zipM rfl (by rfl) m_zip (za_cons (z_fld CT "parts" rfl rfl (z_var 0 (pv 0))) (za_cons (z_ix rfl (hu_of hr) (z_var 1 (pv 1)) z_int (fun _ _ => rfl)) za_nil))) (blkOk_by (own := [("part", 3), ("one", 2)]) (N := ["self", "tree", "one", "part"]) (sc := S_Row_fits) (by decide +kernel)) rfl (zg_tup (.cons (zg_name 3) (.cons (zg_name 2) .nil)) (len_cons (len_cons len_nil))) (by decide) (fun _ _ _ _ _ => (pg_tup rfl (pgs_cons (pg_name (i := 3) sc_Row_fits.nd rfl (Or.inl rfl)) (pgs_cons (pg_name (i := 2) sc_Row_fits.nd rfl (Or.inl rfl)) pgs_nil)))) (fun _ _ _ _ _ => zts_nil) (fun _ _ _ _ _ => (z_meth "fits" rfl ms_fits rfl hr pz_never (z_var 3 (pv 3)) (za_cons (z_var 2 (pv 2)) za_nil))))) za_nil)))))

theorem sc_Pick_fits : FnScope ["self", "tree"] ["self", "tree"] S_Pick_fits := ⟨rfl, rfl, rfl, by decide +kernel, rfl, by decide +kernel, by decide +kernel⟩
theorem ok_Pick_fits {k : Nat} {T : Nat → Fn} {f : Addr} {fd : FuncData} (Fu : Fun G.K "fits" "Pick.fits" st_Pick_fits f fd) (m_len : mg "len" = none) (CT : CtOk G ct) (ms_fits : MsOk P w G mg base k "fits" [("Kind", f_Kind_fits, []), ("Word", f_Word_fits, []), ("Run", f_Run_fits, []), ("Row", (T 0), []), ("Pick", (T 1), []), ("Many", (T 2), [])]) : FnOk P w G.K mg base (L2.CX P w) (k + 1) f fd ["self", "tree"] (spF G (b_Pick_fits T)) :=
  ok_defS (k := k) hS_Pick_fits Fu sc_Pick_fits fun cdv A outer s H E hr =>
    (zs_cons (zs_if (PW.pt (zw_or (zt_cmp (op_neP hr.units) (so_ne rfl) (z_ix rfl (hu_of hr) (z_var 1 (pv 1)) z_int (fun _ _ => rfl)) (z_str [112, 105, 99, 107] (by decide +kernel)) (nomark _)) (zw_or1 (zt_not (zt_ch op_leZ so_le op_ltZ so_lt z_int (z_ix rfl (hu_of hr) (z_var 1 (pv 1)) z_int (fun _ _ => rfl)) (z_blt call_lenZ (so_len rfl) (by rfl) m_len (by decide +kernel) (za_cons (z_fld CT "parts" rfl rfl (z_var 0 (pv 0))) za_nil))))))) (zs_one (zs_ret z_bl)) zs_nil) (zs_one (zs_ret (z_meth "fits" rfl ms_fits rfl hr (pz_takes (takes_of rfl rfl rfl rfl)) (z_ix rfl (hu_of hr) (z_fld CT "parts" rfl rfl (z_var 0 (pv 0))) (z_ix rfl (hu_of hr) (z_var 1 (pv 1)) z_int (fun _ _ => rfl)) (fun _ _ => rfl)) (za_cons (z_ix rfl (hu_of hr) (z_var 1 (pv 1)) z_int (fun _ _ => rfl)) za_nil)))))

theorem sc_Many_fits : FnScope ["self", "tree", "one"] ["self", "tree"] S_Many_fits := ⟨rfl, rfl, rfl, by decide +kernel, rfl, by decide +kernel, by decide +kernel⟩
theorem ok_Many_fits {k : Nat} {T : Nat → Fn} {f : Addr} {fd : FuncData} (Fu : Fun G.K "fits" "Many.fits" st_Many_fits f fd) (m_all : mg "all" = none) (ms_fits : MsOk P w G mg base k "fits" [("Kind", f_Kind_fits, []), ("Word", f_Word_fits, []), ("Run", f_Run_fits, []), ("Row", (T 0), []), ("Pick", (T 1), []), ("Many", (T 2), [])]) (CT : CtOk G ct) : FnOk P w G.K mg base (L2.CX P w) (k + 1) f fd ["self", "tree"] (spF G (b_Many_fits T)) :=
  ok_defS (k := k) hS_Many_fits Fu sc_Many_fits fun cdv A outer s H E hr =>
    (zs_one (zs_ret (z_and (z_cmp (op_eqP hr.units) (so_eq rfl) (z_ix rfl (hu_of hr) (z_var 1 (pv 1)) z_int (fun _ _ => rfl)) (z_str [109, 97, 110, 121] (by decide +kernel)) (nomark _)) (z_one (z_blt (cr_all rfl) (so_all rfl) (by rfl) m_all (by decide +kernel) (za_cons (z_frz (z_lcW rfl sc_Many_fits.nd (zi_seqW rfl (z_ix rfl (hu_of hr) (z_var 1 (pv 1)) z_int (fun _ _ => rfl))) (blkOk_by (own := [("one", 2)]) (N := ["self", "tree", "one"]) (sc := S_Many_fits) (by decide +kernel)) rfl (zg_name 2) (by decide) (fun _ _ _ _ _ => (pg_name (i := 2) sc_Many_fits.nd rfl (Or.inl rfl))) (fun _ _ _ _ _ => zts_nil) (fun _ _ _ _ _ => (z_meth "fits" rfl ms_fits rfl hr pz_never (z_fld CT "part" rfl rfl (z_var 0 (pv 0))) (za_cons (z_var 2 (pv 2)) za_nil))))) za_nil))))))

theorem sc_L_told : FnScope ["_law_kind_here", "_law_tree_here", "_law_one", "_law_j"] ["_law_kind_here", "_law_tree_here"] S_L_told := ⟨rfl, rfl, rfl, by decide +kernel, rfl, by decide +kernel, by decide +kernel⟩
theorem ok_L_told {k : Nat} {T : Nat → Fn} {f : Addr} {fd : FuncData} (Fu : Fun G.K "_law_told" "_law_told" st_L_told f fd) (m_enumerate : mg "enumerate" = none) (g_L_told : GFn P w G mg base "_law_told" k (T 0) []) : FnOk P w G.K mg base (L2.CX P w) (k + 1) f fd ["_law_kind_here", "_law_tree_here"] (spF G (b_L_told T)) :=
  ok_defS (k := k) hS_L_told Fu sc_L_told fun cdv A outer s H E hr =>
    (zs_cons (zs_if (zt_cmp (op_inP hr.units) (so_in rfl) (z_ix rfl (hu_of hr) (z_var 0 (pv 0)) z_int (fun _ _ => rfl)) (z_tup (za_cons (z_str [119, 111, 114, 100] (by decide +kernel)) (za_cons (z_str [114, 117, 110] (by decide +kernel)) za_nil))) (by rfl)) (zs_one (zs_ret (z_ix rfl (hu_of hr) (z_var 1 (pv 1)) z_int (fun _ _ => rfl)))) zs_nil) (zs_cons (zs_if (zt_cmp (op_eqP hr.units) (so_eq rfl) (z_ix rfl (hu_of hr) (z_var 0 (pv 0)) z_int (fun _ _ => rfl)) (z_str [112, 105, 99, 107] (by decide +kernel)) (nomark _)) (zs_one (zs_ret (z_g g_L_told rfl hr (pz_takes (takes_of rfl rfl rfl rfl)) (by rfl) (za_cons (z_ix rfl (hu_of hr) (z_ix rfl (hu_of hr) (z_var 0 (pv 0)) z_int (fun _ _ => rfl)) (z_ix rfl (hu_of hr) (z_var 1 (pv 1)) z_int (fun _ _ => rfl)) (fun _ _ => rfl)) (za_cons (z_ix rfl (hu_of hr) (z_var 1 (pv 1)) z_int (fun _ _ => rfl)) za_nil))))) zs_nil) (zs_cons (zs_if (zt_cmp (op_eqP hr.units) (so_eq rfl) (z_ix rfl (hu_of hr) (z_var 0 (pv 0)) z_int (fun _ _ => rfl)) (z_str [109, 97, 110, 121] (by decide +kernel)) (nomark _)) (zs_one (zs_ret (z_bm rfl PySem.F.plainAttrs_str PySem.F.slot_str_join PySem.F.type_str_join mt_join (so_join rfl) (z_ix rfl (hu_of hr) (z_var 0 (pv 0)) z_int (fun _ _ => rfl)) (za_cons (z_frz (z_lcW rfl sc_L_told.nd (zi_seqW rfl (z_ix rfl (hu_of hr) (z_var 1 (pv 1)) z_int (fun _ _ => rfl))) (blkOk_by (own := [("_law_one", 2)]) (N := ["_law_kind_here", "_law_tree_here", "_law_one", "_law_j"]) (sc := S_L_told) (by decide +kernel)) rfl (zg_name 2) (by decide) (fun _ _ _ _ _ => (pg_name (i := 2) sc_L_told.nd rfl (Or.inl rfl))) (fun _ _ _ _ _ => zts_nil) (fun _ _ _ _ _ => (z_g g_L_told rfl hr pz_never (by rfl) (za_cons (z_ix rfl (hu_of hr) (z_var 0 (pv 0)) z_int (fun _ _ => rfl)) (za_cons (z_var 2 (pv 2)) za_nil)))))) za_nil)))) zs_nil) (zs_one (zs_ret (z_bm rfl PySem.F.plainAttrs_str PySem.F.slot_str_join PySem.F.type_str_join mt_join (so_join rfl) (z_str [] (by decide +kernel)) (za_cons (z_frz (z_lcW rfl sc_L_told.nd (zi_enumM rfl (by rfl) m_enumerate (za_cons (z_ix rfl (hu_of hr) (z_var 1 (pv 1)) z_int (fun _ _ => rfl)) za_nil)) (blkOk_by (own := [("_law_j", 3), ("_law_one", 2)]) (N := ["_law_kind_here", "_law_tree_here", "_law_one", "_law_j"]) (sc := S_L_told) (by decide +kernel)) rfl (zg_tup (.cons (zg_name 3) (.cons (zg_name 2) .nil)) (len_cons (len_cons len_nil))) (by decide) (fun _ _ _ _ _ => (pg_tup rfl (pgs_cons (pg_name (i := 3) sc_L_told.nd rfl (Or.inl rfl)) (pgs_cons (pg_name (i := 2) sc_L_told.nd rfl (Or.inl rfl)) pgs_nil)))) (fun _ _ _ _ _ => zts_nil) (fun _ _ _ _ _ => (z_g g_L_told rfl hr pz_never (by rfl) (za_cons (z_ix rfl (hu_of hr) (z_ix rfl (hu_of hr) (z_var 0 (pv 0)) z_int (fun _ _ => rfl)) (z_var 3 (pv 3)) (fun _ _ => rfl)) (za_cons (z_var 2 (pv 2)) za_nil)))))) za_nil)))))))

theorem sc_Kind_told : FnScope ["self", "tree"] ["self", "tree"] S_Kind_told := ⟨rfl, rfl, rfl, by decide +kernel, rfl, by decide +kernel, by decide +kernel⟩
theorem ok_Kind_told {k : Nat} {f : Addr} {fd : FuncData} (Fu : Fun G.K "told" "Kind.told" st_Kind_told f fd) : FnOk P w G.K mg base (L2.CX P w) (k + 1) f fd ["self", "tree"] (spF G f_Kind_told) :=
  ok_defS (k := k) hS_Kind_told Fu sc_Kind_told fun cdv A outer s H E hr =>
    (zs_one (zs_ret (z_str [] (by decide +kernel))))

theorem sc_Word_told : FnScope ["self", "tree"] ["self", "tree"] S_Word_told := ⟨rfl, rfl, rfl, by decide +kernel, rfl, by decide +kernel, by decide +kernel⟩
theorem ok_Word_told {k : Nat} {f : Addr} {fd : FuncData} (Fu : Fun G.K "told" "Word.told" st_Word_told f fd) (CT : CtOk G ct) : FnOk P w G.K mg base (L2.CX P w) (k + 1) f fd ["self", "tree"] (spF G f_Word_told) :=
  ok_defS (k := k) hS_Word_told Fu sc_Word_told fun cdv A outer s H E hr =>
    (zs_one (zs_ret (z_fld CT "text" rfl rfl (z_var 0 (pv 0)))))

theorem sc_Run_told : FnScope ["self", "tree"] ["self", "tree"] S_Run_told := ⟨rfl, rfl, rfl, by decide +kernel, rfl, by decide +kernel, by decide +kernel⟩
theorem ok_Run_told {k : Nat} {f : Addr} {fd : FuncData} (Fu : Fun G.K "told" "Run.told" st_Run_told f fd) : FnOk P w G.K mg base (L2.CX P w) (k + 1) f fd ["self", "tree"] (spF G f_Run_told) :=
  ok_defS (k := k) hS_Run_told Fu sc_Run_told fun cdv A outer s H E hr =>
    (zs_one (zs_ret (z_ix rfl (hu_of hr) (z_var 1 (pv 1)) z_int (fun _ _ => rfl))))

theorem sc_Row_told : FnScope ["self", "tree", "one", "part"] ["self", "tree"] S_Row_told := ⟨rfl, rfl, rfl, by decide +kernel, rfl, by decide +kernel, by decide +kernel⟩
theorem ok_Row_told {k : Nat} {T : Nat → Fn} {f : Addr} {fd : FuncData} (Fu : Fun G.K "told" "Row.told" st_Row_told f fd) (m_zip : mg "zip" = none) (CT : CtOk G ct) (ms_told : MsOk P w G mg base k "told" [("Kind", f_Kind_told, []), ("Word", f_Word_told, []), ("Run", f_Run_told, []), ("Row", (T 0), []), ("Pick", (T 1), []), ("Many", (T 2), [])]) : FnOk P w G.K mg base (L2.CX P w) (k + 1) f fd ["self", "tree"] (spF G (b_Row_told T)) :=
  ok_defS (k := k) hS_Row_told Fu sc_Row_told fun cdv A outer s H E hr =>
    (zs_one (zs_ret (z_bm rfl PySem.F.plainAttrs_str PySem.F.slot_str_join PySem.F.type_str_join mt_join (so_join rfl) (z_str [] (by decide +kernel)) (za_cons (z_frz (z_lcW rfl sc_Row_told.nd (zi_zipM rfl (by rfl) m_zip (za_cons (z_fld CT "parts" rfl rfl (z_var 0 (pv 0))) (za_cons (z_ix rfl (hu_of hr) (z_var 1 (pv 1)) z_int (fun _ _ => rfl)) za_nil))) (blkOk_by (own := [("part", 3), ("one", 2)]) (N := ["self", "tree", "one", "part"]) (sc := S_Row_told) (by decide +kernel)) rfl (zg_tup (.cons (zg_name 3) (.cons (zg_name 2) .nil)) (len_cons (len_cons len_nil))) (by decide) (fun _ _ _ _ _ => (pg_tup rfl (pgs_cons (pg_name (i := 3) sc_Row_told.nd rfl (Or.inl rfl)) (pgs_cons (pg_name (i := 2) sc_Row_told.nd rfl (Or.inl rfl)) pgs_nil)))) (fun _ _ _ _ _ => zts_nil) (fun _ _ _ _ _ => (z_meth "told" rfl ms_told rfl hr pz_never (z_var 3 (pv 3)) (za_cons (z_var 2 (pv 2)) za_nil))))) za_nil))))

theorem sc_Pick_told : FnScope ["self", "tree"] ["self", "tree"] S_Pick_told := ⟨rfl, rfl, rfl, by decide +kernel, rfl, by decide +kernel, by decide +kernel⟩
theorem ok_Pick_told {k : Nat} {T : Nat → Fn} {f : Addr} {fd : FuncData} (Fu : Fun G.K "told" "Pick.told" st_Pick_told f fd) (ms_told : MsOk P w G mg base k "told" [("Kind", f_Kind_told, []), ("Word", f_Word_told, []), ("Run", f_Run_told, []), ("Row", (T 0), []), ("Pick", (T 1), []), ("Many", (T 2), [])]) (CT : CtOk G ct) : FnOk P w G.K mg base (L2.CX P w) (k + 1) f fd ["self", "tree"] (spF G (b_Pick_told T)) :=
  ok_defS (k := k) hS_Pick_told Fu sc_Pick_told fun cdv A outer s H E hr =>
    (zs_one (zs_ret (z_meth "told" rfl ms_told rfl hr (pz_takes (takes_of rfl rfl rfl rfl)) (z_ix rfl (hu_of hr) (z_fld CT "parts" rfl rfl (z_var 0 (pv 0))) (z_ix rfl (hu_of hr) (z_var 1 (pv 1)) z_int (fun _ _ => rfl)) (fun _ _ => rfl)) (za_cons (z_ix rfl (hu_of hr) (z_var 1 (pv 1)) z_int (fun _ _ => rfl)) za_nil))))

theorem sc_Many_told : FnScope ["self", "tree", "one"] ["self", "tree"] S_Many_told := ⟨rfl, rfl, rfl, by decide +kernel, rfl, by decide +kernel, by decide +kernel⟩
theorem ok_Many_told {k : Nat} {T : Nat → Fn} {f : Addr} {fd : FuncData} (Fu : Fun G.K "told" "Many.told" st_Many_told f fd) (CT : CtOk G ct) (ms_told : MsOk P w G mg base k "told" [("Kind", f_Kind_told, []), ("Word", f_Word_told, []), ("Run", f_Run_told, []), ("Row", (T 0), []), ("Pick", (T 1), []), ("Many", (T 2), [])]) : FnOk P w G.K mg base (L2.CX P w) (k + 1) f fd ["self", "tree"] (spF G (b_Many_told T)) :=
  ok_defS (k := k) hS_Many_told Fu sc_Many_told fun cdv A outer s H E hr =>
    (zs_one (zs_ret (z_bm rfl PySem.F.plainAttrs_str PySem.F.slot_str_join PySem.F.type_str_join mt_join (so_join rfl) (z_fld CT "between" rfl rfl (z_var 0 (pv 0))) (za_cons (z_frz (z_lcW rfl sc_Many_told.nd (zi_seqW rfl (z_ix rfl (hu_of hr) (z_var 1 (pv 1)) z_int (fun _ _ => rfl))) (blkOk_by (own := [("one", 2)]) (N := ["self", "tree", "one"]) (sc := S_Many_told) (by decide +kernel)) rfl (zg_name 2) (by decide) (fun _ _ _ _ _ => (pg_name (i := 2) sc_Many_told.nd rfl (Or.inl rfl))) (fun _ _ _ _ _ => zts_nil) (fun _ _ _ _ _ => (z_meth "told" rfl ms_told rfl hr pz_never (z_fld CT "part" rfl rfl (z_var 0 (pv 0))) (za_cons (z_var 2 (pv 2)) za_nil))))) za_nil))))

theorem sc_L_is_so : FnScope ["_law_found", "_law_kind_here", "_law_tree_here", "_law_due", "_law_word_here", "_law_text"] ["_law_found", "_law_kind_here", "_law_tree_here"] S_L_is_so := ⟨rfl, rfl, rfl, by decide +kernel, rfl, by decide +kernel, by decide +kernel⟩
theorem ok_L_is_so {k : Nat} {f : Addr} {fd : FuncData} (Fu : Fun G.K "_law_is_so" "_law_is_so" st_L_is_so f fd) (m_bool : mg "bool" = none) (m_isinstance : mg "isinstance" = none) (g_L_fits : GFn P w G mg base "_law_fits" k f_L_fits []) (ms_fits : MsOk P w G mg base k "fits" [("Kind", f_Kind_fits, []), ("Word", f_Word_fits, []), ("Run", f_Run_fits, []), ("Row", f_Row_fits, []), ("Pick", f_Pick_fits, []), ("Many", f_Many_fits, [])]) (i_bool : IsiG G mg "bool" (.ty "bool") (.type "bool") is_bool) (g_L_told : GFn P w G mg base "_law_told" k f_L_told []) (ms_told : MsOk P w G mg base k "told" [("Kind", f_Kind_told, []), ("Word", f_Word_told, []), ("Run", f_Run_told, []), ("Row", f_Row_told, []), ("Pick", f_Pick_told, []), ("Many", f_Many_told, [])]) : FnOk P w G.K mg base (L2.CX P w) (k + 1) f fd ["_law_found", "_law_kind_here", "_law_tree_here"] (spF G f_L_is_so) :=
  ok_defS (k := k) hS_L_is_so Fu sc_L_is_so fun cdv A outer s H E hr =>
    (zs_cons (zs_set (i := 3) (pg_name (i := 3) sc_L_is_so.nd rfl (Or.inl rfl)) (z_g g_L_fits rfl hr (pz_takes (takes_of rfl rfl rfl rfl)) (by rfl) (za_cons (z_var 1 (pv 1)) (za_cons (z_var 2 (pv 2)) za_nil)))) (zs_cons (zs_set (i := 4) (pg_name (i := 4) sc_L_is_so.nd rfl (Or.inl rfl)) (z_meth "fits" rfl ms_fits rfl hr (pz_takes (takes_of rfl rfl rfl rfl)) (z_var 0 (pv 0)) (za_cons (z_var 2 (pv 2)) za_nil))) (zs_cons (zs_if (PW.pt (zw_or (zt_not (zt_val (z_isiZ rfl i_bool.cl i_bool.ok (by rfl) m_isinstance (z_var 4 (pv 4)) (pe_bltn (v := .ty "bool") (by rfl) m_bool (by decide +kernel) rfl)))) (zw_or (zt_cmp (op_neP hr.units) (so_ne rfl) (z_var 4 (pv 4)) (z_var 3 (pv 3)) (nomark _)) (zw_or1 (zt_cmp (op_neP hr.units) (so_ne rfl) (z_meth "fits" rfl ms_fits rfl hr (pz_takes (takes_of rfl rfl rfl rfl)) (z_var 0 (pv 0)) (za_cons (z_var 2 (pv 2)) za_nil)) (z_var 3 (pv 3)) (nomark _)))))) (zs_one (zs_ret z_bl)) zs_nil) (zs_cons (zs_if (zt_not (zt_val (z_var 3 (pv 3)))) (zs_one (zs_ret z_bl)) zs_nil) (zs_cons (zs_set (i := 5) (pg_name (i := 5) sc_L_is_so.nd rfl (Or.inl rfl)) (z_g g_L_told rfl hr (pz_takes (takes_of rfl rfl rfl rfl)) (by rfl) (za_cons (z_var 1 (pv 1)) (za_cons (z_var 2 (pv 2)) za_nil)))) (zs_one (zs_ret (z_cmp (op_eqP hr.units) (so_eq rfl) (z_lst (za_cons (z_meth "told" rfl ms_told rfl hr (pz_takes (takes_of rfl rfl rfl rfl)) (z_var 0 (pv 0)) (za_cons (z_var 2 (pv 2)) za_nil)) (za_cons (z_meth "told" rfl ms_told rfl hr (pz_takes (takes_of rfl rfl rfl rfl)) (z_var 0 (pv 0)) (za_cons (z_var 2 (pv 2)) za_nil)) za_nil))) (z_lst (za_cons (z_var 5 (pv 5)) (za_cons (z_var 5 (pv 5)) za_nil))) (nomark _)))))))))

theorem sc_law : FnScope ["_law_script", "_law_k", "_law_number", "_law_kind_here", "_law_tree_here", "_law_found", "_law_j", "_law_good", "_law_one", "_law_inner_here", "_law_other"] ["_law_script"] S_law := ⟨rfl, rfl, rfl, by decide +kernel, rfl, by decide +kernel, by decide +kernel⟩
theorem ok_law {k : Nat} {f : Addr} {fd : FuncData} (Fu : Fun G.K "law" "law" st_law f fd) (m_len : mg "len" = none) (m_max : mg "max" = none) (m_range : mg "range" = none) (g_L_mixed : GFn P w G mg base "_law_mixed" k f_L_mixed []) (g_L_kind : GFn P w G mg base "_law_kind" k f_L_kind []) (g_L_tree : GFn P w G mg base "_law_tree" k f_L_tree []) (g_L_turned : GFn P w G mg base "_law_turned" k f_L_turned []) (g_L_built : GFn P w G mg base "_law_built" k f_L_built []) (g_L_fits : GFn P w G mg base "_law_fits" k f_L_fits []) (g_L_is_so : GFn P w G mg base "_law_is_so" k f_L_is_so []) (g_L_spoilt : GFn P w G mg base "_law_spoilt" k f_L_spoilt []) (g_L_inner : GFn P w G mg base "_law_inner" k f_L_inner []) : FnOk P w G.K mg base (L2.CX P w) (k + 1) f fd ["_law_script"] (spF G f_law) :=
  ok_defS (k := k) hS_law Fu sc_law fun cdv A outer s H E hr =>
    (zs_cons (zs_forW (passes_of rfl) rfl (zi_wk (zi_rng1 (by rfl) m_range (za_cons (z_blt (call_max2 rfl) so_max2 (by rfl) m_max (by decide +kernel) (za_cons z_int (za_cons (z_blt call_lenZ (so_len rfl) (by rfl) m_len (by decide +kernel) (za_cons (z_var 0 (pv 0)) za_nil)) za_nil))) za_nil))) (pg_name (i := 1) sc_law.nd rfl (Or.inl rfl)) (zg_name 1) (zs_cons (zs_set (i := 2) (pg_name (i := 2) sc_law.nd rfl (Or.inl rfl)) (z_g g_L_mixed rfl hr (pz_takes (takes_of rfl rfl rfl rfl)) (by rfl) (za_cons (z_var 0 (pv 0)) (za_cons (z_var 1 (pv 1)) za_nil)))) (zs_cons (zs_set (i := 3) (pg_name (i := 3) sc_law.nd rfl (Or.inl rfl)) (z_g g_L_kind rfl hr (pz_takes (takes_of rfl rfl rfl rfl)) (by rfl) (za_cons (z_var 2 (pv 2)) (za_cons (z_ix rfl (hu_of hr) (z_lst (za_cons z_int (za_cons z_int (za_cons z_int (za_cons z_int za_nil))))) (z_bin op_mod so_mod (z_bin op_fdiv so_div (z_var 2 (pv 2)) z_int) z_int) (fun _ _ => rfl)) za_nil)))) (zs_cons (zs_set (i := 4) (pg_name (i := 4) sc_law.nd rfl (Or.inl rfl)) (z_g g_L_tree rfl hr (pz_takes (takes_of rfl rfl rfl rfl)) (by rfl) (za_cons (z_var 3 (pv 3)) (za_cons (z_g g_L_turned rfl hr (pz_takes (takes_of rfl rfl rfl rfl)) (by rfl) (za_cons (z_var 2 (pv 2)) (za_cons z_int za_nil))) za_nil)))) (zs_cons (zs_set (i := 5) (pg_name (i := 5) sc_law.nd rfl (Or.inl rfl)) (z_g g_L_built rfl hr (pz_takes (takes_of rfl rfl rfl rfl)) (by rfl) (za_cons (z_var 3 (pv 3)) za_nil))) (zs_cons (zs_if (zt_not (zt_val (z_g g_L_fits rfl hr (pz_takes (takes_of rfl rfl rfl rfl)) (by rfl) (za_cons (z_var 3 (pv 3)) (za_cons (z_var 4 (pv 4)) za_nil))))) (zs_one (zs_ret z_bl)) zs_nil) (zs_cons (zs_forW (passes_of rfl) rfl (zi_wk (zi_rng1 (by rfl) m_range (za_cons z_int za_nil))) (pg_name (i := 6) sc_law.nd rfl (Or.inl rfl)) (zg_name 6) (zs_cons (zs_if (zt_not (zt_val (z_g g_L_is_so rfl hr (pz_takes (takes_of rfl rfl rfl rfl)) (by rfl) (za_cons (z_var 5 (pv 5)) (za_cons (z_var 3 (pv 3)) (za_cons (z_var 4 (pv 4)) za_nil)))))) (zs_one (zs_ret z_bl)) zs_nil) (zs_cons (zs_set (i := 7) (pg_name (i := 7) sc_law.nd rfl (Or.inl rfl)) (z_g g_L_tree rfl hr (pz_takes (takes_of rfl rfl rfl rfl)) (by rfl) (za_cons (z_var 3 (pv 3)) (za_cons (z_g g_L_turned rfl hr (pz_takes (takes_of rfl rfl rfl rfl)) (by rfl) (za_cons (z_var 2 (pv 2)) (za_cons z_int za_nil))) za_nil)))) (zs_one (zs_set (i := 4) (pg_name (i := 4) sc_law.nd rfl (Or.inl rfl)) (z_g g_L_spoilt rfl hr (pz_takes (takes_of rfl rfl rfl rfl)) (by rfl) (za_cons (z_var 7 (pv 7)) (za_cons (z_g g_L_turned rfl hr (pz_takes (takes_of rfl rfl rfl rfl)) (by rfl) (za_cons (z_var 2 (pv 2)) (za_cons (z_bin op_addZ (so_add rfl) z_int (z_var 6 (pv 6))) za_nil))) za_nil)))))))) (zs_one (zs_forW (passes_of rfl) rfl (zi_seqW rfl (z_g g_L_inner rfl hr (pz_takes (takes_of rfl rfl rfl rfl)) (by rfl) (za_cons (z_var 3 (pv 3)) za_nil))) (pg_name (i := 8) sc_law.nd rfl (Or.inl rfl)) (zg_name 8) (zs_cons (zs_set (i := 9) (pg_name (i := 9) sc_law.nd rfl (Or.inl rfl)) (z_g g_L_tree rfl hr (pz_takes (takes_of rfl rfl rfl rfl)) (by rfl) (za_cons (z_var 8 (pv 8)) (za_cons (z_var 2 (pv 2)) za_nil)))) (zs_cons (zs_set (i := 10) (pg_name (i := 10) sc_law.nd rfl (Or.inl rfl)) (z_g g_L_built rfl hr (pz_takes (takes_of rfl rfl rfl rfl)) (by rfl) (za_cons (z_var 8 (pv 8)) za_nil))) (zs_one (zs_if (PW.pt (zw_or (zt_not (zt_val (z_g g_L_is_so rfl hr (pz_takes (takes_of rfl rfl rfl rfl)) (by rfl) (za_cons (z_var 10 (pv 10)) (za_cons (z_var 8 (pv 8)) (za_cons (z_var 9 (pv 9)) za_nil)))))) (zw_or1 (zt_not (zt_val (z_g g_L_is_so rfl hr (pz_takes (takes_of rfl rfl rfl rfl)) (by rfl) (za_cons (z_var 10 (pv 10)) (za_cons (z_var 8 (pv 8)) (za_cons (z_var 4 (pv 4)) za_nil))))))))) (zs_one (zs_ret z_bl)) zs_nil))))))))))))) (zs_one (zs_ret z_bl)))
end
end Y
namespace Y
open PySem PySem.Spec PyProof.Rows L2 Z
theorem all_mk {l : PySem.W.OpenLaw} {w : World} {K : PySem.W.Frag} {h : Heap} {mg : Str → Option Value} {fa p0 p1 p2 p3 p4 p5 p6 p7 p8 p9 p10 p11 p12 p13 p14 p15 p16 p17 p18 p19 p20 p21 p22 p23 p24 p25 p26 p27 p28 p29 p30 p31 q0 q1 q2 q3 q4 q5 : Addr} (X : K.In h) (N : h.Ns mainGlobals mg) (hfa : mg "law" = some (.ref fa))
    {od0 an0 : Option Addr} {sl0 : Array (Option Value)} {oc0 kV0 dc0 pm0 cd0 ct0 : Value} {od1 an1 : Option Addr} {sl1 : Array (Option Value)} {oc1 kV1 dc1 pm1 cd1 ct1 : Value} {od2 an2 : Option Addr} {sl2 : Array (Option Value)} {oc2 kV2 dc2 pm2 cd2 ct2 : Value} {od3 an3 : Option Addr} {sl3 : Array (Option Value)} {oc3 kV3 dc3 pm3 cd3 ct3 : Value} {od4 an4 : Option Addr} {sl4 : Array (Option Value)} {oc4 kV4 dc4 pm4 cd4 ct4 : Value} {od5 an5 : Option Addr} {sl5 : Array (Option Value)} {oc5 kV5 dc5 pm5 cd5 ct5 : Value} {od6 an6 : Option Addr} {sl6 : Array (Option Value)} {oc6 kV6 dc6 pm6 cd6 ct6 : Value} {od7 an7 : Option Addr} {sl7 : Array (Option Value)} {oc7 kV7 dc7 pm7 cd7 ct7 : Value} {t7a : Addr} {t7c : Value} {t7d : Option Addr} {t7i : Array Value} {t7n : Nat} {t7s : Array (Option Value)} {od8 an8 : Option Addr} {sl8 : Array (Option Value)} {oc8 kV8 dc8 pm8 cd8 ct8 : Value} {od9 an9 : Option Addr} {sl9 : Array (Option Value)} {oc9 kV9 dc9 pm9 cd9 ct9 : Value} {od10 an10 : Option Addr} {sl10 : Array (Option Value)} {oc10 kV10 dc10 pm10 cd10 ct10 : Value} {t10a : Addr} {t10c : Value} {t10d : Option Addr} {t10i : Array Value} {t10n : Nat} {t10s : Array (Option Value)} {od11 an11 : Option Addr} {sl11 : Array (Option Value)} {oc11 kV11 dc11 pm11 cd11 ct11 : Value} {od12 an12 : Option Addr} {sl12 : Array (Option Value)} {oc12 kV12 dc12 pm12 cd12 ct12 : Value} {od13 an13 : Option Addr} {sl13 : Array (Option Value)} {oc13 kV13 dc13 pm13 cd13 ct13 : Value} {od14 an14 : Option Addr} {sl14 : Array (Option Value)} {oc14 kV14 dc14 pm14 cd14 ct14 : Value} {od15 an15 : Option Addr} {sl15 : Array (Option Value)} {oc15 kV15 dc15 pm15 cd15 ct15 : Value} {od16 an16 : Option Addr} {sl16 : Array (Option Value)} {oc16 kV16 dc16 pm16 cd16 ct16 : Value} {od17 an17 : Option Addr} {sl17 : Array (Option Value)} {oc17 kV17 dc17 pm17 cd17 ct17 : Value} {od18 an18 : Option Addr} {sl18 : Array (Option Value)} {oc18 kV18 dc18 pm18 cd18 ct18 : Value} {od19 an19 : Option Addr} {sl19 : Array (Option Value)} {oc19 kV19 dc19 pm19 cd19 ct19 : Value} {od20 an20 : Option Addr} {sl20 : Array (Option Value)} {oc20 kV20 dc20 pm20 cd20 ct20 : Value} {od21 an21 : Option Addr} {sl21 : Array (Option Value)} {oc21 kV21 dc21 pm21 cd21 ct21 : Value} {od22 an22 : Option Addr} {sl22 : Array (Option Value)} {oc22 kV22 dc22 pm22 cd22 ct22 : Value} {od23 an23 : Option Addr} {sl23 : Array (Option Value)} {oc23 kV23 dc23 pm23 cd23 ct23 : Value} {od24 an24 : Option Addr} {sl24 : Array (Option Value)} {oc24 kV24 dc24 pm24 cd24 ct24 : Value} {od25 an25 : Option Addr} {sl25 : Array (Option Value)} {oc25 kV25 dc25 pm25 cd25 ct25 : Value} {od26 an26 : Option Addr} {sl26 : Array (Option Value)} {oc26 kV26 dc26 pm26 cd26 ct26 : Value} {od27 an27 : Option Addr} {sl27 : Array (Option Value)} {oc27 kV27 dc27 pm27 cd27 ct27 : Value} {od28 an28 : Option Addr} {sl28 : Array (Option Value)} {oc28 kV28 dc28 pm28 cd28 ct28 : Value} {od29 an29 : Option Addr} {sl29 : Array (Option Value)} {oc29 kV29 dc29 pm29 cd29 ct29 : Value} {od30 an30 : Option Addr} {sl30 : Array (Option Value)} {oc30 kV30 dc30 pm30 cd30 ct30 : Value} {od31 an31 : Option Addr} {sl31 : Array (Option Value)} {oc31 kV31 dc31 pm31 cd31 ct31 : Value}
    (A0 : PySem.W.nsIn K mainGlobals "Kind" = some (some (.ref q0)))
    (A1 : PySem.W.nsIn K mainGlobals "Word" = some (some (.ref q1)))
    (A2 : PySem.W.nsIn K mainGlobals "Run" = some (some (.ref q2)))
    (A3 : PySem.W.nsIn K mainGlobals "Row" = some (some (.ref q3)))
    (A4 : PySem.W.nsIn K mainGlobals "Pick" = some (some (.ref q4)))
    (A5 : PySem.W.nsIn K mainGlobals "Many" = some (some (.ref q5)))
    (a0 : PySem.W.nsIn K mainGlobals "_law_mixed" = some (some (.ref p0)))
    (l0 : K.lookup p0 = some ⟨oc0, od0, .func (PySem.W.fnOf "_law_mixed" "_law_mixed" (defArgs st_L_mixed) (defBody st_L_mixed) (defScope st_L_mixed) .none kV0 dc0 pm0 an0 cd0 ct0), sl0⟩)
    (c0 : PySem.W.codeIn K cd0 "_law_mixed" = true)
    (k0 : PySem.W.keepIn K (.ref p0) = true)
    (a1 : PySem.W.nsIn K mainGlobals "_law_signs" = some (some (.ref p1)))
    (l1 : K.lookup p1 = some ⟨oc1, od1, .func (PySem.W.fnOf "_law_signs" "_law_signs" (defArgs st_L_signs) (defBody st_L_signs) (defScope st_L_signs) .none kV1 dc1 pm1 an1 cd1 ct1), sl1⟩)
    (c1 : PySem.W.codeIn K cd1 "_law_signs" = true)
    (k1 : PySem.W.keepIn K (.ref p1) = true)
    (a2 : PySem.W.nsIn K mainGlobals "_law_run" = some (some (.ref p2)))
    (l2 : K.lookup p2 = some ⟨oc2, od2, .func (PySem.W.fnOf "_law_run" "_law_run" (defArgs st_L_run) (defBody st_L_run) (defScope st_L_run) .none kV2 dc2 pm2 an2 cd2 ct2), sl2⟩)
    (c2 : PySem.W.codeIn K cd2 "_law_run" = true)
    (k2 : PySem.W.keepIn K (.ref p2) = true)
    (a3 : PySem.W.nsIn K mainGlobals "_law_turned" = some (some (.ref p3)))
    (l3 : K.lookup p3 = some ⟨oc3, od3, .func (PySem.W.fnOf "_law_turned" "_law_turned" (defArgs st_L_turned) (defBody st_L_turned) (defScope st_L_turned) .none kV3 dc3 pm3 an3 cd3 ct3), sl3⟩)
    (c3 : PySem.W.codeIn K cd3 "_law_turned" = true)
    (k3 : PySem.W.keepIn K (.ref p3) = true)
    (a4 : PySem.W.nsIn K mainGlobals "_law_word" = some (some (.ref p4)))
    (l4 : K.lookup p4 = some ⟨oc4, od4, .func (PySem.W.fnOf "_law_word" "_law_word" (defArgs st_L_word) (defBody st_L_word) (defScope st_L_word) .none kV4 dc4 pm4 an4 cd4 ct4), sl4⟩)
    (c4 : PySem.W.codeIn K cd4 "_law_word" = true)
    (k4 : PySem.W.keepIn K (.ref p4) = true)
    (a5 : PySem.W.nsIn K mainGlobals "_law_kind" = some (some (.ref p5)))
    (l5 : K.lookup p5 = some ⟨oc5, od5, .func (PySem.W.fnOf "_law_kind" "_law_kind" (defArgs st_L_kind) (defBody st_L_kind) (defScope st_L_kind) .none kV5 dc5 pm5 an5 cd5 ct5), sl5⟩)
    (c5 : PySem.W.codeIn K cd5 "_law_kind" = true)
    (k5 : PySem.W.keepIn K (.ref p5) = true)
    (a6 : PySem.W.nsIn K mainGlobals "_law_tree" = some (some (.ref p6)))
    (l6 : K.lookup p6 = some ⟨oc6, od6, .func (PySem.W.fnOf "_law_tree" "_law_tree" (defArgs st_L_tree) (defBody st_L_tree) (defScope st_L_tree) .none kV6 dc6 pm6 an6 cd6 ct6), sl6⟩)
    (c6 : PySem.W.codeIn K cd6 "_law_tree" = true)
    (k6 : PySem.W.keepIn K (.ref p6) = true)
    (a7 : PySem.W.findIn K (.ref q5) "__init__" = some (some (.ref p7)))
    (l7 : K.lookup p7 = some ⟨oc7, od7, .func (PySem.W.fnOf "__init__" "Many.__init__" (defArgs st_Many_init) (defBody st_Many_init) (defScope st_Many_init) (.ref t7a) kV7 dc7 pm7 an7 cd7 ct7), sl7⟩)
    (t7 : K.lookup t7a = some ⟨t7c, t7d, .seq t7i t7n, t7s⟩)
    (v7 : Vals [.str ""] t7i.toList)
    (c7 : PySem.W.codeIn K cd7 "Many.__init__" = true)
    (k7 : PySem.W.keepIn K (.ref p7) = true)
    (f7 : PySem.W.isFn K (.ref p7) = true)
    (a8 : PySem.W.findIn K (.ref q1) "__init__" = some (some (.ref p8)))
    (l8 : K.lookup p8 = some ⟨oc8, od8, .func (PySem.W.fnOf "__init__" "Word.__init__" (defArgs st_Word_init) (defBody st_Word_init) (defScope st_Word_init) .none kV8 dc8 pm8 an8 cd8 ct8), sl8⟩)
    (c8 : PySem.W.codeIn K cd8 "Word.__init__" = true)
    (k8 : PySem.W.keepIn K (.ref p8) = true)
    (f8 : PySem.W.isFn K (.ref p8) = true)
    (a9 : PySem.W.findIn K (.ref q2) "__init__" = some (some (.ref p9)))
    (l9 : K.lookup p9 = some ⟨oc9, od9, .func (PySem.W.fnOf "__init__" "Run.__init__" (defArgs st_Run_init) (defBody st_Run_init) (defScope st_Run_init) .none kV9 dc9 pm9 an9 cd9 ct9), sl9⟩)
    (c9 : PySem.W.codeIn K cd9 "Run.__init__" = true)
    (k9 : PySem.W.keepIn K (.ref p9) = true)
    (f9 : PySem.W.isFn K (.ref p9) = true)
    (a10 : PySem.W.findIn K (.ref q3) "__init__" = some (some (.ref p10)))
    (l10 : K.lookup p10 = some ⟨oc10, od10, .func (PySem.W.fnOf "__init__" "Row.__init__" (defArgs st_Row_init) (defBody st_Row_init) (defScope st_Row_init) (.ref t10a) kV10 dc10 pm10 an10 cd10 ct10), sl10⟩)
    (t10 : K.lookup t10a = some ⟨t10c, t10d, .seq t10i t10n, t10s⟩)
    (v10 : Vals [.non] t10i.toList)
    (c10 : PySem.W.codeIn K cd10 "Row.__init__" = true)
    (k10 : PySem.W.keepIn K (.ref p10) = true)
    (f10 : PySem.W.isFn K (.ref p10) = true)
    (a11 : PySem.W.findIn K (.ref q4) "__init__" = some (some (.ref p11)))
    (l11 : K.lookup p11 = some ⟨oc11, od11, .func (PySem.W.fnOf "__init__" "Pick.__init__" (defArgs st_Pick_init) (defBody st_Pick_init) (defScope st_Pick_init) .none kV11 dc11 pm11 an11 cd11 ct11), sl11⟩)
    (c11 : PySem.W.codeIn K cd11 "Pick.__init__" = true)
    (k11 : PySem.W.keepIn K (.ref p11) = true)
    (f11 : PySem.W.isFn K (.ref p11) = true)
    (a12 : PySem.W.nsIn K mainGlobals "_law_built" = some (some (.ref p12)))
    (l12 : K.lookup p12 = some ⟨oc12, od12, .func (PySem.W.fnOf "_law_built" "_law_built" (defArgs st_L_built) (defBody st_L_built) (defScope st_L_built) .none kV12 dc12 pm12 an12 cd12 ct12), sl12⟩)
    (c12 : PySem.W.codeIn K cd12 "_law_built" = true)
    (k12 : PySem.W.keepIn K (.ref p12) = true)
    (a13 : PySem.W.nsIn K mainGlobals "_law_inner" = some (some (.ref p13)))
    (l13 : K.lookup p13 = some ⟨oc13, od13, .func (PySem.W.fnOf "_law_inner" "_law_inner" (defArgs st_L_inner) (defBody st_L_inner) (defScope st_L_inner) .none kV13 dc13 pm13 an13 cd13 ct13), sl13⟩)
    (c13 : PySem.W.codeIn K cd13 "_law_inner" = true)
    (k13 : PySem.W.keepIn K (.ref p13) = true)
    (a14 : PySem.W.nsIn K mainGlobals "_law_fits" = some (some (.ref p14)))
    (l14 : K.lookup p14 = some ⟨oc14, od14, .func (PySem.W.fnOf "_law_fits" "_law_fits" (defArgs st_L_fits) (defBody st_L_fits) (defScope st_L_fits) .none kV14 dc14 pm14 an14 cd14 ct14), sl14⟩)
    (c14 : PySem.W.codeIn K cd14 "_law_fits" = true)
    (k14 : PySem.W.keepIn K (.ref p14) = true)
    (a15 : PySem.W.nsIn K mainGlobals "_law_odd" = some (some (.ref p15)))
    (l15 : K.lookup p15 = some ⟨oc15, od15, .func (PySem.W.fnOf "_law_odd" "_law_odd" (defArgs st_L_odd) (defBody st_L_odd) (defScope st_L_odd) .none kV15 dc15 pm15 an15 cd15 ct15), sl15⟩)
    (c15 : PySem.W.codeIn K cd15 "_law_odd" = true)
    (k15 : PySem.W.keepIn K (.ref p15) = true)
    (a16 : PySem.W.nsIn K mainGlobals "_law_spoilt" = some (some (.ref p16)))
    (l16 : K.lookup p16 = some ⟨oc16, od16, .func (PySem.W.fnOf "_law_spoilt" "_law_spoilt" (defArgs st_L_spoilt) (defBody st_L_spoilt) (defScope st_L_spoilt) .none kV16 dc16 pm16 an16 cd16 ct16), sl16⟩)
    (c16 : PySem.W.codeIn K cd16 "_law_spoilt" = true)
    (k16 : PySem.W.keepIn K (.ref p16) = true)
    (a17 : PySem.W.findIn K (.ref q0) "fits" = some (some (.ref p17)))
    (l17 : K.lookup p17 = some ⟨oc17, od17, .func (PySem.W.fnOf "fits" "Kind.fits" (defArgs st_Kind_fits) (defBody st_Kind_fits) (defScope st_Kind_fits) .none kV17 dc17 pm17 an17 cd17 ct17), sl17⟩)
    (c17 : PySem.W.codeIn K cd17 "Kind.fits" = true)
    (k17 : PySem.W.keepIn K (.ref p17) = true)
    (f17 : PySem.W.isFn K (.ref p17) = true)
    (a18 : PySem.W.findIn K (.ref q1) "fits" = some (some (.ref p18)))
    (l18 : K.lookup p18 = some ⟨oc18, od18, .func (PySem.W.fnOf "fits" "Word.fits" (defArgs st_Word_fits) (defBody st_Word_fits) (defScope st_Word_fits) .none kV18 dc18 pm18 an18 cd18 ct18), sl18⟩)
    (c18 : PySem.W.codeIn K cd18 "Word.fits" = true)
    (k18 : PySem.W.keepIn K (.ref p18) = true)
    (f18 : PySem.W.isFn K (.ref p18) = true)
    (a19 : PySem.W.findIn K (.ref q2) "fits" = some (some (.ref p19)))
    (l19 : K.lookup p19 = some ⟨oc19, od19, .func (PySem.W.fnOf "fits" "Run.fits" (defArgs st_Run_fits) (defBody st_Run_fits) (defScope st_Run_fits) .none kV19 dc19 pm19 an19 cd19 ct19), sl19⟩)
    (c19 : PySem.W.codeIn K cd19 "Run.fits" = true)
    (k19 : PySem.W.keepIn K (.ref p19) = true)
    (f19 : PySem.W.isFn K (.ref p19) = true)
    (a20 : PySem.W.findIn K (.ref q3) "fits" = some (some (.ref p20)))
    (l20 : K.lookup p20 = some ⟨oc20, od20, .func (PySem.W.fnOf "fits" "Row.fits" (defArgs st_Row_fits) (defBody st_Row_fits) (defScope st_Row_fits) .none kV20 dc20 pm20 an20 cd20 ct20), sl20⟩)
    (c20 : PySem.W.codeIn K cd20 "Row.fits" = true)
    (k20 : PySem.W.keepIn K (.ref p20) = true)
    (f20 : PySem.W.isFn K (.ref p20) = true)
    (a21 : PySem.W.findIn K (.ref q4) "fits" = some (some (.ref p21)))
    (l21 : K.lookup p21 = some ⟨oc21, od21, .func (PySem.W.fnOf "fits" "Pick.fits" (defArgs st_Pick_fits) (defBody st_Pick_fits) (defScope st_Pick_fits) .none kV21 dc21 pm21 an21 cd21 ct21), sl21⟩)
    (c21 : PySem.W.codeIn K cd21 "Pick.fits" = true)
    (k21 : PySem.W.keepIn K (.ref p21) = true)
    (f21 : PySem.W.isFn K (.ref p21) = true)
    (a22 : PySem.W.findIn K (.ref q5) "fits" = some (some (.ref p22)))
    (l22 : K.lookup p22 = some ⟨oc22, od22, .func (PySem.W.fnOf "fits" "Many.fits" (defArgs st_Many_fits) (defBody st_Many_fits) (defScope st_Many_fits) .none kV22 dc22 pm22 an22 cd22 ct22), sl22⟩)
    (c22 : PySem.W.codeIn K cd22 "Many.fits" = true)
    (k22 : PySem.W.keepIn K (.ref p22) = true)
    (f22 : PySem.W.isFn K (.ref p22) = true)
    (a23 : PySem.W.nsIn K mainGlobals "_law_told" = some (some (.ref p23)))
    (l23 : K.lookup p23 = some ⟨oc23, od23, .func (PySem.W.fnOf "_law_told" "_law_told" (defArgs st_L_told) (defBody st_L_told) (defScope st_L_told) .none kV23 dc23 pm23 an23 cd23 ct23), sl23⟩)
    (c23 : PySem.W.codeIn K cd23 "_law_told" = true)
    (k23 : PySem.W.keepIn K (.ref p23) = true)
    (a24 : PySem.W.findIn K (.ref q0) "told" = some (some (.ref p24)))
    (l24 : K.lookup p24 = some ⟨oc24, od24, .func (PySem.W.fnOf "told" "Kind.told" (defArgs st_Kind_told) (defBody st_Kind_told) (defScope st_Kind_told) .none kV24 dc24 pm24 an24 cd24 ct24), sl24⟩)
    (c24 : PySem.W.codeIn K cd24 "Kind.told" = true)
    (k24 : PySem.W.keepIn K (.ref p24) = true)
    (f24 : PySem.W.isFn K (.ref p24) = true)
    (a25 : PySem.W.findIn K (.ref q1) "told" = some (some (.ref p25)))
    (l25 : K.lookup p25 = some ⟨oc25, od25, .func (PySem.W.fnOf "told" "Word.told" (defArgs st_Word_told) (defBody st_Word_told) (defScope st_Word_told) .none kV25 dc25 pm25 an25 cd25 ct25), sl25⟩)
    (c25 : PySem.W.codeIn K cd25 "Word.told" = true)
    (k25 : PySem.W.keepIn K (.ref p25) = true)
    (f25 : PySem.W.isFn K (.ref p25) = true)
    (a26 : PySem.W.findIn K (.ref q2) "told" = some (some (.ref p26)))
    (l26 : K.lookup p26 = some ⟨oc26, od26, .func (PySem.W.fnOf "told" "Run.told" (defArgs st_Run_told) (defBody st_Run_told) (defScope st_Run_told) .none kV26 dc26 pm26 an26 cd26 ct26), sl26⟩)
    (c26 : PySem.W.codeIn K cd26 "Run.told" = true)
    (k26 : PySem.W.keepIn K (.ref p26) = true)
    (f26 : PySem.W.isFn K (.ref p26) = true)
    (a27 : PySem.W.findIn K (.ref q3) "told" = some (some (.ref p27)))
    (l27 : K.lookup p27 = some ⟨oc27, od27, .func (PySem.W.fnOf "told" "Row.told" (defArgs st_Row_told) (defBody st_Row_told) (defScope st_Row_told) .none kV27 dc27 pm27 an27 cd27 ct27), sl27⟩)
    (c27 : PySem.W.codeIn K cd27 "Row.told" = true)
    (k27 : PySem.W.keepIn K (.ref p27) = true)
    (f27 : PySem.W.isFn K (.ref p27) = true)
    (a28 : PySem.W.findIn K (.ref q4) "told" = some (some (.ref p28)))
    (l28 : K.lookup p28 = some ⟨oc28, od28, .func (PySem.W.fnOf "told" "Pick.told" (defArgs st_Pick_told) (defBody st_Pick_told) (defScope st_Pick_told) .none kV28 dc28 pm28 an28 cd28 ct28), sl28⟩)
    (c28 : PySem.W.codeIn K cd28 "Pick.told" = true)
    (k28 : PySem.W.keepIn K (.ref p28) = true)
    (f28 : PySem.W.isFn K (.ref p28) = true)
    (a29 : PySem.W.findIn K (.ref q5) "told" = some (some (.ref p29)))
    (l29 : K.lookup p29 = some ⟨oc29, od29, .func (PySem.W.fnOf "told" "Many.told" (defArgs st_Many_told) (defBody st_Many_told) (defScope st_Many_told) .none kV29 dc29 pm29 an29 cd29 ct29), sl29⟩)
    (c29 : PySem.W.codeIn K cd29 "Many.told" = true)
    (k29 : PySem.W.keepIn K (.ref p29) = true)
    (f29 : PySem.W.isFn K (.ref p29) = true)
    (a30 : PySem.W.nsIn K mainGlobals "_law_is_so" = some (some (.ref p30)))
    (l30 : K.lookup p30 = some ⟨oc30, od30, .func (PySem.W.fnOf "_law_is_so" "_law_is_so" (defArgs st_L_is_so) (defBody st_L_is_so) (defScope st_L_is_so) .none kV30 dc30 pm30 an30 cd30 ct30), sl30⟩)
    (c30 : PySem.W.codeIn K cd30 "_law_is_so" = true)
    (k30 : PySem.W.keepIn K (.ref p30) = true)
    (a31 : PySem.W.nsIn K mainGlobals "law" = some (some (.ref p31)))
    (l31 : K.lookup p31 = some ⟨oc31, od31, .func (PySem.W.fnOf "law" "law" (defArgs st_law) (defBody st_law) (defScope st_law) .none kV31 dc31 pm31 an31 cd31 ct31), sl31⟩)
    (c31 : PySem.W.codeIn K cd31 "law" = true)
    (k31 : PySem.W.keepIn K (.ref p31) = true)
    (z_all : PySem.W.nsIn K mainGlobals "all" = some none)
    (z_bool : PySem.W.nsIn K mainGlobals "bool" = some none)
    (z_enumerate : PySem.W.nsIn K mainGlobals "enumerate" = some none)
    (z_int : PySem.W.nsIn K mainGlobals "int" = some none)
    (z_isinstance : PySem.W.nsIn K mainGlobals "isinstance" = some none)
    (z_len : PySem.W.nsIn K mainGlobals "len" = some none)
    (z_list : PySem.W.nsIn K mainGlobals "list" = some none)
    (z_max : PySem.W.nsIn K mainGlobals "max" = some none)
    (z_min : PySem.W.nsIn K mainGlobals "min" = some none)
    (z_range : PySem.W.nsIn K mainGlobals "range" = some none)
    (z_tuple : PySem.W.nsIn K mainGlobals "tuple" = some none)
    (z_zip : PySem.W.nsIn K mainGlobals "zip" = some none)
    (pg5 : PySem.W.plainGet K q5 Str.empty = true)
    (hd5 : PySem.W.hasDictIn K q5 = true)
    (po5 : PySem.W.plainOver K q5 = true)
    (sa5 : PySem.W.findIn K (.ref q5) "__setattr__" = some (some (.builtin "object.__setattr__")))
    (ha5 : PySem.W.findIn K (.ref q5) "__class__" = some (some (.builtin "object.__class__")))
    (hm5 : PySem.W.mroIn K q5 (.type "object") = some true)
    (hn0 : PySem.W.specialIn K (.builtin "object.__class__") "__get__" = some (some (.builtin "getset_descriptor.__get__")))
    (ht0 : PySem.W.takesIn K (.builtin "object.__class__") = some true)
    (nf5_between : PySem.W.findIn K (.ref q5) "between" = some none)
    (nf5_part : PySem.W.findIn K (.ref q5) "part" = some none)
    (pg4 : PySem.W.plainGet K q4 Str.empty = true)
    (hd4 : PySem.W.hasDictIn K q4 = true)
    (po4 : PySem.W.plainOver K q4 = true)
    (sa4 : PySem.W.findIn K (.ref q4) "__setattr__" = some (some (.builtin "object.__setattr__")))
    (ha4 : PySem.W.findIn K (.ref q4) "__class__" = some (some (.builtin "object.__class__")))
    (hm4 : PySem.W.mroIn K q4 (.type "object") = some true)
    (nf4_parts : PySem.W.findIn K (.ref q4) "parts" = some none)
    (pg3 : PySem.W.plainGet K q3 Str.empty = true)
    (hd3 : PySem.W.hasDictIn K q3 = true)
    (po3 : PySem.W.plainOver K q3 = true)
    (sa3 : PySem.W.findIn K (.ref q3) "__setattr__" = some (some (.builtin "object.__setattr__")))
    (ha3 : PySem.W.findIn K (.ref q3) "__class__" = some (some (.builtin "object.__class__")))
    (hm3 : PySem.W.mroIn K q3 (.type "object") = some true)
    (nf3_parts : PySem.W.findIn K (.ref q3) "parts" = some none)
    (pg2 : PySem.W.plainGet K q2 Str.empty = true)
    (hd2 : PySem.W.hasDictIn K q2 = true)
    (po2 : PySem.W.plainOver K q2 = true)
    (sa2 : PySem.W.findIn K (.ref q2) "__setattr__" = some (some (.builtin "object.__setattr__")))
    (ha2 : PySem.W.findIn K (.ref q2) "__class__" = some (some (.builtin "object.__class__")))
    (hm2 : PySem.W.mroIn K q2 (.type "object") = some true)
    (nf2_most : PySem.W.findIn K (.ref q2) "most" = some none)
    (nf2_least : PySem.W.findIn K (.ref q2) "least" = some none)
    (nf2_signs : PySem.W.findIn K (.ref q2) "signs" = some none)
    (pg1 : PySem.W.plainGet K q1 Str.empty = true)
    (hd1 : PySem.W.hasDictIn K q1 = true)
    (po1 : PySem.W.plainOver K q1 = true)
    (sa1 : PySem.W.findIn K (.ref q1) "__setattr__" = some (some (.builtin "object.__setattr__")))
    (ha1 : PySem.W.findIn K (.ref q1) "__class__" = some (some (.builtin "object.__class__")))
    (hm1 : PySem.W.mroIn K q1 (.type "object") = some true)
    (nf1_text : PySem.W.findIn K (.ref q1) "text" = some none)
    (pg0 : PySem.W.plainGet K q0 Str.empty = true)
    (hd0 : PySem.W.hasDictIn K q0 = true)
    (po0 : PySem.W.plainOver K q0 = true)
    (sa0 : PySem.W.findIn K (.ref q0) "__setattr__" = some (some (.builtin "object.__setattr__")))
    (ha0 : PySem.W.findIn K (.ref q0) "__class__" = some (some (.builtin "object.__class__")))
    (hm0 : PySem.W.mroIn K q0 (.type "object") = some true)
    (mk1 : PySem.W.makesIn K q1 = true)
    (kc1 : PySem.W.keepIn K (.ref q1) = true)
    (mk2 : PySem.W.makesIn K q2 = true)
    (kc2 : PySem.W.keepIn K (.ref q2) = true)
    (mk3 : PySem.W.makesIn K q3 = true)
    (kc3 : PySem.W.keepIn K (.ref q3) = true)
    (mk4 : PySem.W.makesIn K q4 = true)
    (kc4 : PySem.W.keepIn K (.ref q4) = true)
    (mk5 : PySem.W.makesIn K q5 = true)
    (kc5 : PySem.W.keepIn K (.ref q5) = true) :
    ∃ fd : FuncData, (∀ (s : Shared) (v : Value), BindsTo s fd ⟨[v], []⟩ [("_law_script", v)]) ∧ ∀ base : Heap, K.In base → base.Ns mainGlobals mg → FnOk l.prog w K mg base (L2.CX l.prog w) 15 fa fd ["_law_script"] (spL K f_law) := by
  have e := hfa.symm.trans (PySem.W.mg_of X N a31)
  cases e
  refine ⟨PySem.W.fnOf "law" "law" (defArgs st_law) (defBody st_law) (defScope st_law) .none kV31 dc31 pm31 an31 cd31 ct31, fun s v => .of_eq rfl, fun base _ _ => ?_⟩
  have m_all := PySem.W.mg_none_of X N z_all
  have m_bool := PySem.W.mg_none_of X N z_bool
  have m_enumerate := PySem.W.mg_none_of X N z_enumerate
  have m_int := PySem.W.mg_none_of X N z_int
  have m_isinstance := PySem.W.mg_none_of X N z_isinstance
  have m_len := PySem.W.mg_none_of X N z_len
  have m_list := PySem.W.mg_none_of X N z_list
  have m_max := PySem.W.mg_none_of X N z_max
  have m_min := PySem.W.mg_none_of X N z_min
  have m_range := PySem.W.mg_none_of X N z_range
  have m_tuple := PySem.W.mg_none_of X N z_tuple
  have m_zip := PySem.W.mg_none_of X N z_zip
  let G : Gx := ⟨K, fun c => if c = "Kind" then q0 else if c = "Word" then q1 else if c = "Run" then q2 else if c = "Row" then q3 else if c = "Pick" then q4 else if c = "Many" then q5 else 0⟩
  have e_Kind : G.cls "Kind" = q0 := by simp [G]
  have e_Word : G.cls "Word" = q1 := by simp [G]
  have e_Run : G.cls "Run" = q2 := by simp [G]
  have e_Row : G.cls "Row" = q3 := by simp [G]
  have e_Pick : G.cls "Pick" = q4 := by simp [G]
  have e_Many : G.cls "Many" = q5 := by simp [G]
  have F0 := fun_mk (st := st_L_mixed) l0 c0 k0
  have O0 := ok_L_mixed (P := l.prog) (w := w) (mg := mg) (base := base) (G := G) (k := 0) F0 m_len m_max 
  have F1 := fun_mk (st := st_L_signs) l1 c1 k1
  have O1 := ok_L_signs (P := l.prog) (w := w) (mg := mg) (base := base) (G := G) (k := 0) F1  
  have F2 := fun_mk (st := st_L_run) l2 c2 k2
  have B1 := F1.binds (ps := []) fun _ _ _ _ _ _ us hl => match us, hl with | [], _ => rfl
  have O2 := ok_L_run (P := l.prog) (w := w) (mg := mg) (base := base) (G := G) (k := 1) F2 m_len m_max m_range (GFn.of (PySem.W.mg_of X N a1) F1.kp (O1.mono (by omega)) B1)
  have F3 := fun_mk (st := st_L_turned) l3 c3 k3
  have O3 := ok_L_turned (P := l.prog) (w := w) (mg := mg) (base := base) (G := G) (k := 0) F3  
  have F4 := fun_mk (st := st_L_word) l4 c4 k4
  have B3 := F3.binds (ps := ["_law_number", "_law_k"]) fun _ _ _ _ _ _ us hl => match us, hl with | [_, _], _ => rfl
  have O4 := ok_L_word (P := l.prog) (w := w) (mg := mg) (base := base) (G := G) (k := 1) F4 m_len m_range (GFn.of (PySem.W.mg_of X N a1) F1.kp (O1.mono (by omega)) B1) (GFn.of (PySem.W.mg_of X N a3) F3.kp (O3.mono (by omega)) B3)
  have F5 := fun_mk (st := st_L_kind) l5 c5 k5
  have B4 := F4.binds (ps := ["_law_number", "_law_size"]) fun _ _ _ _ _ _ us hl => match us, hl with | [_, _], _ => rfl
  have B2 := F2.binds (ps := ["_law_number", "_law_wide"]) fun _ _ _ _ _ _ us hl => match us, hl with | [_, _], _ => rfl
  have B5 := F5.binds (ps := ["_law_number", "_law_deep"]) fun _ _ _ _ _ _ us hl => match us, hl with | [_, _], _ => rfl
  have S0 : ∀ n : Nat, FnOk l.prog w G.K mg base (L2.CX l.prog w) (2 + 1 * n) p5 (PySem.W.fnOf "_law_kind" "_law_kind" (defArgs st_L_kind) (defBody st_L_kind) (defScope st_L_kind) .none kV5 dc5 pm5 an5 cd5 ct5) ["_law_number", "_law_deep"] (spF G (R_0 n 0)) := by
    intro n; induction n with
    | zero => exact fnok_none
    | succ n ih =>
      have h0 := ih
      exact ((ok_L_kind (P := l.prog) (w := w) (mg := mg) (base := base) (G := G) (T := R_0 n) (k := 2 + 1 * n + 0) F5 m_int m_min m_range (GFn.of (PySem.W.mg_of X N a4) F4.kp (O4.mono (by omega)) B4) (GFn.of (PySem.W.mg_of X N a2) F2.kp (O2.mono (by omega)) B2) (GFn.of (PySem.W.mg_of X N a5) F5.kp (h0.mono (by omega)) B5) (GFn.of (PySem.W.mg_of X N a3) F3.kp (O3.mono (by omega)) B3)).mono (by omega))
  have O5 := (S0 12)
  have F6 := fun_mk (st := st_L_tree) l6 c6 k6
  have B6 := F6.binds (ps := ["_law_kind_here", "_law_number"]) fun _ _ _ _ _ _ us hl => match us, hl with | [_, _], _ => rfl
  have S1 : ∀ n : Nat, FnOk l.prog w G.K mg base (L2.CX l.prog w) (1 + 1 * n) p6 (PySem.W.fnOf "_law_tree" "_law_tree" (defArgs st_L_tree) (defBody st_L_tree) (defScope st_L_tree) .none kV6 dc6 pm6 an6 cd6 ct6) ["_law_kind_here", "_law_number"] (spF G (R_1 n 0)) := by
    intro n; induction n with
    | zero => exact fnok_none
    | succ n ih =>
      have h0 := ih
      exact ((ok_L_tree (P := l.prog) (w := w) (mg := mg) (base := base) (G := G) (T := R_1 n) (k := 1 + 1 * n + 0) F6 m_enumerate m_len m_range m_tuple (GFn.of (PySem.W.mg_of X N a3) F3.kp (O3.mono (by omega)) B3) (GFn.of (PySem.W.mg_of X N a6) F6.kp (h0.mono (by omega)) B6)).mono (by omega))
  have O6 := (S1 12)
  have L_Many : Cls G.K (G.cls "Many") := by rw [e_Many]; exact ⟨pg5, hd5, po5, sa5⟩
  have Z_Many : InsZ G.K (G.cls "Many") := by rw [e_Many] at L_Many ⊢; exact ⟨fun H a dx vs e => .ins e L_Many ha5 hn0 ht0 hm5⟩
  have L_Pick : Cls G.K (G.cls "Pick") := by rw [e_Pick]; exact ⟨pg4, hd4, po4, sa4⟩
  have Z_Pick : InsZ G.K (G.cls "Pick") := by rw [e_Pick] at L_Pick ⊢; exact ⟨fun H a dx vs e => .ins e L_Pick ha4 hn0 ht0 hm4⟩
  have L_Row : Cls G.K (G.cls "Row") := by rw [e_Row]; exact ⟨pg3, hd3, po3, sa3⟩
  have Z_Row : InsZ G.K (G.cls "Row") := by rw [e_Row] at L_Row ⊢; exact ⟨fun H a dx vs e => .ins e L_Row ha3 hn0 ht0 hm3⟩
  have L_Run : Cls G.K (G.cls "Run") := by rw [e_Run]; exact ⟨pg2, hd2, po2, sa2⟩
  have Z_Run : InsZ G.K (G.cls "Run") := by rw [e_Run] at L_Run ⊢; exact ⟨fun H a dx vs e => .ins e L_Run ha2 hn0 ht0 hm2⟩
  have L_Word : Cls G.K (G.cls "Word") := by rw [e_Word]; exact ⟨pg1, hd1, po1, sa1⟩
  have Z_Word : InsZ G.K (G.cls "Word") := by rw [e_Word] at L_Word ⊢; exact ⟨fun H a dx vs e => .ins e L_Word ha1 hn0 ht0 hm1⟩
  have L_Kind : Cls G.K (G.cls "Kind") := by rw [e_Kind]; exact ⟨pg0, hd0, po0, sa0⟩
  have Z_Kind : InsZ G.K (G.cls "Kind") := by rw [e_Kind] at L_Kind ⊢; exact ⟨fun H a dx vs e => .ins e L_Kind ha0 hn0 ht0 hm0⟩
  have CT : CtOk G ct := ⟨(fm_cons (by show InsC G.K (G.cls "Kind") _; rw [e_Kind]; exact ⟨⟨pg0, hd0, po0, sa0⟩, ha0, hn0, ht0, hm0, fm_nil⟩) (fm_cons (by show InsC G.K (G.cls "Word") _; rw [e_Word]; exact ⟨⟨pg1, hd1, po1, sa1⟩, ha1, hn0, ht0, hm1, (fm_cons nf1_text fm_nil)⟩) (fm_cons (by show InsC G.K (G.cls "Run") _; rw [e_Run]; exact ⟨⟨pg2, hd2, po2, sa2⟩, ha2, hn0, ht0, hm2, (fm_cons nf2_signs (fm_cons nf2_least (fm_cons nf2_most fm_nil)))⟩) (fm_cons (by show InsC G.K (G.cls "Row") _; rw [e_Row]; exact ⟨⟨pg3, hd3, po3, sa3⟩, ha3, hn0, ht0, hm3, (fm_cons nf3_parts fm_nil)⟩) (fm_cons (by show InsC G.K (G.cls "Pick") _; rw [e_Pick]; exact ⟨⟨pg4, hd4, po4, sa4⟩, ha4, hn0, ht0, hm4, (fm_cons nf4_parts fm_nil)⟩) (fm_cons (by show InsC G.K (G.cls "Many") _; rw [e_Many]; exact ⟨⟨pg5, hd5, po5, sa5⟩, ha5, hn0, ht0, hm5, (fm_cons nf5_part (fm_cons nf5_between fm_nil))⟩) fm_nil)))))), fm_nil⟩
  have F7 := funv_mk (st := st_Many_init) (dvs := [.str ""]) l7 t7 v7 (by simp) c7 k7
  have O7 := ok_Many_init (P := l.prog) (w := w) (mg := mg) (base := base) (G := G) (k := 0) F7  CT
  have F8 := fun_mk (st := st_Word_init) l8 c8 k8
  have O8 := ok_Word_init (P := l.prog) (w := w) (mg := mg) (base := base) (G := G) (k := 0) F8  CT
  have F9 := fun_mk (st := st_Run_init) l9 c9 k9
  have O9 := ok_Run_init (P := l.prog) (w := w) (mg := mg) (base := base) (G := G) (k := 0) F9  CT
  have F10 := funv_mk (st := st_Row_init) (dvs := [.non]) l10 t10 v10 (by simp) c10 k10
  have O10 := ok_Row_init (P := l.prog) (w := w) (mg := mg) (base := base) (G := G) (k := 0) F10 m_list CT
  have F11 := fun_mk (st := st_Pick_init) l11 c11 k11
  have O11 := ok_Pick_init (P := l.prog) (w := w) (mg := mg) (base := base) (G := G) (k := 0) F11 m_list CT
  have F12 := fun_mk (st := st_L_built) l12 c12 k12
  have B8 := F8.binds (ps := ["self", "text"]) fun _ _ _ _ _ _ us hl => match us, hl with | [_, _], _ => rfl
  have B9 := F9.binds (ps := ["self", "signs", "least", "most"]) fun _ _ _ _ _ _ us hl => match us, hl with | [_, _, _, _], _ => rfl
  obtain ⟨ds10_0, V10_0, B10_0⟩ := F10.binds1 (ps := ["self", "parts"]) 2 1 (by simp) (by rfl) fun _ _ _ _ _ _ _ us its hu hi => match us, its, hu, hi with | [_, _], [_], _, _ => ⟨_, rfl, rfl⟩
  have B12 := F12.binds (ps := ["_law_kind_here"]) fun _ _ _ _ _ _ us hl => match us, hl with | [_], _ => rfl
  have B11 := F11.binds (ps := ["self", "parts"]) fun _ _ _ _ _ _ us hl => match us, hl with | [_, _], _ => rfl
  obtain ⟨ds7_0, V7_0, B7_0⟩ := F7.binds1 (ps := ["self", "part", "between"]) 3 1 (by simp) (by rfl) fun _ _ _ _ _ _ _ us its hu hi => match us, its, hu, hi with | [_, _, _], [_], _, _ => ⟨_, rfl, rfl⟩
  have S2 : ∀ n : Nat, FnOk l.prog w G.K mg base (L2.CX l.prog w) (2 + 1 * n) p12 (PySem.W.fnOf "_law_built" "_law_built" (defArgs st_L_built) (defBody st_L_built) (defScope st_L_built) .none kV12 dc12 pm12 an12 cd12 ct12) ["_law_kind_here"] (spF G (R_2 n 0)) := by
    intro n; induction n with
    | zero => exact fnok_none
    | succ n ih =>
      have h0 := ih
      exact ((ok_L_built (P := l.prog) (w := w) (mg := mg) (base := base) (G := G) (T := R_2 n) (k := 2 + 1 * n + 0) F12  (KGn.mk ⟨p8, _, _, _, _, _, (by omega), by rw [e_Word]; exact PySem.W.mg_of X N A1, by rw [e_Word]; exact ⟨mk1, a8, f8, kc1⟩, (O8), B8, .nil, fun _ => .nil⟩) (KGn.mk ⟨p9, _, _, _, _, _, (by omega), by rw [e_Run]; exact PySem.W.mg_of X N A2, by rw [e_Run]; exact ⟨mk2, a9, f9, kc2⟩, (O9), B9, .nil, fun _ => .nil⟩) (KGn.mk ⟨p10, _, _, _, _, _, (by omega), by rw [e_Row]; exact PySem.W.mg_of X N A3, by rw [e_Row]; exact ⟨mk3, a10, f10, kc3⟩, (O10), B10_0, V10_0, fun _ => .nil⟩) (GFn.of (PySem.W.mg_of X N a12) F12.kp (h0.mono (by omega)) B12) (KGn.mk ⟨p11, _, _, _, _, _, (by omega), by rw [e_Pick]; exact PySem.W.mg_of X N A4, by rw [e_Pick]; exact ⟨mk4, a11, f11, kc4⟩, (O11), B11, .nil, fun _ => .nil⟩) (KGn.mk ⟨p7, _, _, _, _, _, (by omega), by rw [e_Many]; exact PySem.W.mg_of X N A5, by rw [e_Many]; exact ⟨mk5, a7, f7, kc5⟩, (O7), B7_0, V7_0, fun _ => .nil⟩)).mono (by omega))
  have O12 := (S2 12)
  have F13 := fun_mk (st := st_L_inner) l13 c13 k13
  have O13 := ok_L_inner (P := l.prog) (w := w) (mg := mg) (base := base) (G := G) (k := 0) F13 m_list 
  have F14 := fun_mk (st := st_L_fits) l14 c14 k14
  have B14 := F14.binds (ps := ["_law_kind_here", "_law_tree_here"]) fun _ _ _ _ _ _ us hl => match us, hl with | [_, _], _ => rfl
  have S3 : ∀ n : Nat, FnOk l.prog w G.K mg base (L2.CX l.prog w) (0 + 1 * n) p14 (PySem.W.fnOf "_law_fits" "_law_fits" (defArgs st_L_fits) (defBody st_L_fits) (defScope st_L_fits) .none kV14 dc14 pm14 an14 cd14 ct14) ["_law_kind_here", "_law_tree_here"] (spF G (R_3 n 0)) := by
    intro n; induction n with
    | zero => exact fnok_none
    | succ n ih =>
      have h0 := ih
      exact ((ok_L_fits (P := l.prog) (w := w) (mg := mg) (base := base) (G := G) (T := R_3 n) (k := 0 + 1 * n + 0) F14 m_all m_enumerate m_len (GFn.of (PySem.W.mg_of X N a14) F14.kp (h0.mono (by omega)) B14)).mono (by omega))
  have O14 := (S3 12)
  have F15 := fun_mk (st := st_L_odd) l15 c15 k15
  have O15 := ok_L_odd (P := l.prog) (w := w) (mg := mg) (base := base) (G := G) (k := 0) F15 m_len 
  have F16 := fun_mk (st := st_L_spoilt) l16 c16 k16
  have B15 := F15.binds (ps := ["_law_tree_here", "_law_number"]) fun _ _ _ _ _ _ us hl => match us, hl with | [_, _], _ => rfl
  have B16 := F16.binds (ps := ["_law_tree_here", "_law_number"]) fun _ _ _ _ _ _ us hl => match us, hl with | [_, _], _ => rfl
  have S4 : ∀ n : Nat, FnOk l.prog w G.K mg base (L2.CX l.prog w) (1 + 1 * n) p16 (PySem.W.fnOf "_law_spoilt" "_law_spoilt" (defArgs st_L_spoilt) (defBody st_L_spoilt) (defScope st_L_spoilt) .none kV16 dc16 pm16 an16 cd16 ct16) ["_law_tree_here", "_law_number"] (spF G (R_4 n 0)) := by
    intro n; induction n with
    | zero => exact fnok_none
    | succ n ih =>
      have h0 := ih
      exact ((ok_L_spoilt (P := l.prog) (w := w) (mg := mg) (base := base) (G := G) (T := R_4 n) (k := 1 + 1 * n + 0) F16 m_len (GFn.of (PySem.W.mg_of X N a15) F15.kp (O15.mono (by omega)) B15) (GFn.of (PySem.W.mg_of X N a16) F16.kp (h0.mono (by omega)) B16)).mono (by omega))
  have O16 := (S4 12)
  have F17 := fun_mk (st := st_Kind_fits) l17 c17 k17
  have O17 := ok_Kind_fits (P := l.prog) (w := w) (mg := mg) (base := base) (G := G) (k := 0) F17  
  have F18 := fun_mk (st := st_Word_fits) l18 c18 k18
  have O18 := ok_Word_fits (P := l.prog) (w := w) (mg := mg) (base := base) (G := G) (k := 0) F18  CT
  have F19 := fun_mk (st := st_Run_fits) l19 c19 k19
  have O19 := ok_Run_fits (P := l.prog) (w := w) (mg := mg) (base := base) (G := G) (k := 0) F19 m_all m_len CT
  have F20 := fun_mk (st := st_Row_fits) l20 c20 k20
  have F22 := fun_mk (st := st_Many_fits) l22 c22 k22
  have B22 := F22.binds (ps := ["self", "tree"]) fun _ _ _ _ _ _ us hl => match us, hl with | [_, _], _ => rfl
  have F21 := fun_mk (st := st_Pick_fits) l21 c21 k21
  have B21 := F21.binds (ps := ["self", "tree"]) fun _ _ _ _ _ _ us hl => match us, hl with | [_, _], _ => rfl
  have B20 := F20.binds (ps := ["self", "tree"]) fun _ _ _ _ _ _ us hl => match us, hl with | [_, _], _ => rfl
  have B19 := F19.binds (ps := ["self", "tree"]) fun _ _ _ _ _ _ us hl => match us, hl with | [_, _], _ => rfl
  have B18 := F18.binds (ps := ["self", "tree"]) fun _ _ _ _ _ _ us hl => match us, hl with | [_, _], _ => rfl
  have B17 := F17.binds (ps := ["self", "tree"]) fun _ _ _ _ _ _ us hl => match us, hl with | [_, _], _ => rfl
  have S5 : ∀ n : Nat, FnOk l.prog w G.K mg base (L2.CX l.prog w) (1 + 1 * n) p20 (PySem.W.fnOf "fits" "Row.fits" (defArgs st_Row_fits) (defBody st_Row_fits) (defScope st_Row_fits) .none kV20 dc20 pm20 an20 cd20 ct20) ["self", "tree"] (spF G (R_5 n 0)) ∧ FnOk l.prog w G.K mg base (L2.CX l.prog w) (1 + 1 * n) p21 (PySem.W.fnOf "fits" "Pick.fits" (defArgs st_Pick_fits) (defBody st_Pick_fits) (defScope st_Pick_fits) .none kV21 dc21 pm21 an21 cd21 ct21) ["self", "tree"] (spF G (R_5 n 1)) ∧ FnOk l.prog w G.K mg base (L2.CX l.prog w) (1 + 1 * n) p22 (PySem.W.fnOf "fits" "Many.fits" (defArgs st_Many_fits) (defBody st_Many_fits) (defScope st_Many_fits) .none kV22 dc22 pm22 an22 cd22 ct22) ["self", "tree"] (spF G (R_5 n 2)) := by
    intro n; induction n with
    | zero => exact ⟨fnok_none, fnok_none, fnok_none⟩
    | succ n ih =>
      obtain ⟨h0, h1, h2⟩ := ih
      exact ⟨((ok_Row_fits (P := l.prog) (w := w) (mg := mg) (base := base) (G := G) (T := R_5 n) (k := 1 + 1 * n + 0) F20 m_all m_len m_zip CT (.cons ⟨L_Kind, p17, _, _, _, _, by rw [e_Kind]; exact ⟨a17, f17, k17⟩, (O17.mono (by omega)), B17, .nil, fun _ => .nil⟩ (.cons ⟨L_Word, p18, _, _, _, _, by rw [e_Word]; exact ⟨a18, f18, k18⟩, (O18.mono (by omega)), B18, .nil, fun _ => .nil⟩ (.cons ⟨L_Run, p19, _, _, _, _, by rw [e_Run]; exact ⟨a19, f19, k19⟩, (O19.mono (by omega)), B19, .nil, fun _ => .nil⟩ (.cons ⟨L_Row, p20, _, _, _, _, by rw [e_Row]; exact ⟨a20, f20, k20⟩, (h0.mono (by omega)), B20, .nil, fun _ => .nil⟩ (.cons ⟨L_Pick, p21, _, _, _, _, by rw [e_Pick]; exact ⟨a21, f21, k21⟩, (h1.mono (by omega)), B21, .nil, fun _ => .nil⟩ (.cons ⟨L_Many, p22, _, _, _, _, by rw [e_Many]; exact ⟨a22, f22, k22⟩, (h2.mono (by omega)), B22, .nil, fun _ => .nil⟩ .nil))))))).mono (by omega)),
        ((ok_Pick_fits (P := l.prog) (w := w) (mg := mg) (base := base) (G := G) (T := R_5 n) (k := 1 + 1 * n + 0) F21 m_len CT (.cons ⟨L_Kind, p17, _, _, _, _, by rw [e_Kind]; exact ⟨a17, f17, k17⟩, (O17.mono (by omega)), B17, .nil, fun _ => .nil⟩ (.cons ⟨L_Word, p18, _, _, _, _, by rw [e_Word]; exact ⟨a18, f18, k18⟩, (O18.mono (by omega)), B18, .nil, fun _ => .nil⟩ (.cons ⟨L_Run, p19, _, _, _, _, by rw [e_Run]; exact ⟨a19, f19, k19⟩, (O19.mono (by omega)), B19, .nil, fun _ => .nil⟩ (.cons ⟨L_Row, p20, _, _, _, _, by rw [e_Row]; exact ⟨a20, f20, k20⟩, (h0.mono (by omega)), B20, .nil, fun _ => .nil⟩ (.cons ⟨L_Pick, p21, _, _, _, _, by rw [e_Pick]; exact ⟨a21, f21, k21⟩, (h1.mono (by omega)), B21, .nil, fun _ => .nil⟩ (.cons ⟨L_Many, p22, _, _, _, _, by rw [e_Many]; exact ⟨a22, f22, k22⟩, (h2.mono (by omega)), B22, .nil, fun _ => .nil⟩ .nil))))))).mono (by omega)),
        ((ok_Many_fits (P := l.prog) (w := w) (mg := mg) (base := base) (G := G) (T := R_5 n) (k := 1 + 1 * n + 0) F22 m_all (.cons ⟨L_Kind, p17, _, _, _, _, by rw [e_Kind]; exact ⟨a17, f17, k17⟩, (O17.mono (by omega)), B17, .nil, fun _ => .nil⟩ (.cons ⟨L_Word, p18, _, _, _, _, by rw [e_Word]; exact ⟨a18, f18, k18⟩, (O18.mono (by omega)), B18, .nil, fun _ => .nil⟩ (.cons ⟨L_Run, p19, _, _, _, _, by rw [e_Run]; exact ⟨a19, f19, k19⟩, (O19.mono (by omega)), B19, .nil, fun _ => .nil⟩ (.cons ⟨L_Row, p20, _, _, _, _, by rw [e_Row]; exact ⟨a20, f20, k20⟩, (h0.mono (by omega)), B20, .nil, fun _ => .nil⟩ (.cons ⟨L_Pick, p21, _, _, _, _, by rw [e_Pick]; exact ⟨a21, f21, k21⟩, (h1.mono (by omega)), B21, .nil, fun _ => .nil⟩ (.cons ⟨L_Many, p22, _, _, _, _, by rw [e_Many]; exact ⟨a22, f22, k22⟩, (h2.mono (by omega)), B22, .nil, fun _ => .nil⟩ .nil)))))) CT).mono (by omega))⟩
  have O20 := (S5 12).1
  have O21 := (S5 12).2.1
  have O22 := (S5 12).2.2
  have F23 := fun_mk (st := st_L_told) l23 c23 k23
  have B23 := F23.binds (ps := ["_law_kind_here", "_law_tree_here"]) fun _ _ _ _ _ _ us hl => match us, hl with | [_, _], _ => rfl
  have S6 : ∀ n : Nat, FnOk l.prog w G.K mg base (L2.CX l.prog w) (0 + 1 * n) p23 (PySem.W.fnOf "_law_told" "_law_told" (defArgs st_L_told) (defBody st_L_told) (defScope st_L_told) .none kV23 dc23 pm23 an23 cd23 ct23) ["_law_kind_here", "_law_tree_here"] (spF G (R_6 n 0)) := by
    intro n; induction n with
    | zero => exact fnok_none
    | succ n ih =>
      have h0 := ih
      exact ((ok_L_told (P := l.prog) (w := w) (mg := mg) (base := base) (G := G) (T := R_6 n) (k := 0 + 1 * n + 0) F23 m_enumerate (GFn.of (PySem.W.mg_of X N a23) F23.kp (h0.mono (by omega)) B23)).mono (by omega))
  have O23 := (S6 12)
  have F24 := fun_mk (st := st_Kind_told) l24 c24 k24
  have O24 := ok_Kind_told (P := l.prog) (w := w) (mg := mg) (base := base) (G := G) (k := 0) F24  
  have F25 := fun_mk (st := st_Word_told) l25 c25 k25
  have O25 := ok_Word_told (P := l.prog) (w := w) (mg := mg) (base := base) (G := G) (k := 0) F25  CT
  have F26 := fun_mk (st := st_Run_told) l26 c26 k26
  have O26 := ok_Run_told (P := l.prog) (w := w) (mg := mg) (base := base) (G := G) (k := 0) F26  
  have F27 := fun_mk (st := st_Row_told) l27 c27 k27
  have F29 := fun_mk (st := st_Many_told) l29 c29 k29
  have B29 := F29.binds (ps := ["self", "tree"]) fun _ _ _ _ _ _ us hl => match us, hl with | [_, _], _ => rfl
  have F28 := fun_mk (st := st_Pick_told) l28 c28 k28
  have B28 := F28.binds (ps := ["self", "tree"]) fun _ _ _ _ _ _ us hl => match us, hl with | [_, _], _ => rfl
  have B27 := F27.binds (ps := ["self", "tree"]) fun _ _ _ _ _ _ us hl => match us, hl with | [_, _], _ => rfl
  have B26 := F26.binds (ps := ["self", "tree"]) fun _ _ _ _ _ _ us hl => match us, hl with | [_, _], _ => rfl
  have B25 := F25.binds (ps := ["self", "tree"]) fun _ _ _ _ _ _ us hl => match us, hl with | [_, _], _ => rfl
  have B24 := F24.binds (ps := ["self", "tree"]) fun _ _ _ _ _ _ us hl => match us, hl with | [_, _], _ => rfl
  have S7 : ∀ n : Nat, FnOk l.prog w G.K mg base (L2.CX l.prog w) (1 + 1 * n) p27 (PySem.W.fnOf "told" "Row.told" (defArgs st_Row_told) (defBody st_Row_told) (defScope st_Row_told) .none kV27 dc27 pm27 an27 cd27 ct27) ["self", "tree"] (spF G (R_7 n 0)) ∧ FnOk l.prog w G.K mg base (L2.CX l.prog w) (1 + 1 * n) p28 (PySem.W.fnOf "told" "Pick.told" (defArgs st_Pick_told) (defBody st_Pick_told) (defScope st_Pick_told) .none kV28 dc28 pm28 an28 cd28 ct28) ["self", "tree"] (spF G (R_7 n 1)) ∧ FnOk l.prog w G.K mg base (L2.CX l.prog w) (1 + 1 * n) p29 (PySem.W.fnOf "told" "Many.told" (defArgs st_Many_told) (defBody st_Many_told) (defScope st_Many_told) .none kV29 dc29 pm29 an29 cd29 ct29) ["self", "tree"] (spF G (R_7 n 2)) := by
    intro n; induction n with
    | zero => exact ⟨fnok_none, fnok_none, fnok_none⟩
    | succ n ih =>
      obtain ⟨h0, h1, h2⟩ := ih
      exact ⟨((ok_Row_told (P := l.prog) (w := w) (mg := mg) (base := base) (G := G) (T := R_7 n) (k := 1 + 1 * n + 0) F27 m_zip CT (.cons ⟨L_Kind, p24, _, _, _, _, by rw [e_Kind]; exact ⟨a24, f24, k24⟩, (O24.mono (by omega)), B24, .nil, fun _ => .nil⟩ (.cons ⟨L_Word, p25, _, _, _, _, by rw [e_Word]; exact ⟨a25, f25, k25⟩, (O25.mono (by omega)), B25, .nil, fun _ => .nil⟩ (.cons ⟨L_Run, p26, _, _, _, _, by rw [e_Run]; exact ⟨a26, f26, k26⟩, (O26.mono (by omega)), B26, .nil, fun _ => .nil⟩ (.cons ⟨L_Row, p27, _, _, _, _, by rw [e_Row]; exact ⟨a27, f27, k27⟩, (h0.mono (by omega)), B27, .nil, fun _ => .nil⟩ (.cons ⟨L_Pick, p28, _, _, _, _, by rw [e_Pick]; exact ⟨a28, f28, k28⟩, (h1.mono (by omega)), B28, .nil, fun _ => .nil⟩ (.cons ⟨L_Many, p29, _, _, _, _, by rw [e_Many]; exact ⟨a29, f29, k29⟩, (h2.mono (by omega)), B29, .nil, fun _ => .nil⟩ .nil))))))).mono (by omega)),
        ((ok_Pick_told (P := l.prog) (w := w) (mg := mg) (base := base) (G := G) (T := R_7 n) (k := 1 + 1 * n + 0) F28  (.cons ⟨L_Kind, p24, _, _, _, _, by rw [e_Kind]; exact ⟨a24, f24, k24⟩, (O24.mono (by omega)), B24, .nil, fun _ => .nil⟩ (.cons ⟨L_Word, p25, _, _, _, _, by rw [e_Word]; exact ⟨a25, f25, k25⟩, (O25.mono (by omega)), B25, .nil, fun _ => .nil⟩ (.cons ⟨L_Run, p26, _, _, _, _, by rw [e_Run]; exact ⟨a26, f26, k26⟩, (O26.mono (by omega)), B26, .nil, fun _ => .nil⟩ (.cons ⟨L_Row, p27, _, _, _, _, by rw [e_Row]; exact ⟨a27, f27, k27⟩, (h0.mono (by omega)), B27, .nil, fun _ => .nil⟩ (.cons ⟨L_Pick, p28, _, _, _, _, by rw [e_Pick]; exact ⟨a28, f28, k28⟩, (h1.mono (by omega)), B28, .nil, fun _ => .nil⟩ (.cons ⟨L_Many, p29, _, _, _, _, by rw [e_Many]; exact ⟨a29, f29, k29⟩, (h2.mono (by omega)), B29, .nil, fun _ => .nil⟩ .nil)))))) CT).mono (by omega)),
        ((ok_Many_told (P := l.prog) (w := w) (mg := mg) (base := base) (G := G) (T := R_7 n) (k := 1 + 1 * n + 0) F29  CT (.cons ⟨L_Kind, p24, _, _, _, _, by rw [e_Kind]; exact ⟨a24, f24, k24⟩, (O24.mono (by omega)), B24, .nil, fun _ => .nil⟩ (.cons ⟨L_Word, p25, _, _, _, _, by rw [e_Word]; exact ⟨a25, f25, k25⟩, (O25.mono (by omega)), B25, .nil, fun _ => .nil⟩ (.cons ⟨L_Run, p26, _, _, _, _, by rw [e_Run]; exact ⟨a26, f26, k26⟩, (O26.mono (by omega)), B26, .nil, fun _ => .nil⟩ (.cons ⟨L_Row, p27, _, _, _, _, by rw [e_Row]; exact ⟨a27, f27, k27⟩, (h0.mono (by omega)), B27, .nil, fun _ => .nil⟩ (.cons ⟨L_Pick, p28, _, _, _, _, by rw [e_Pick]; exact ⟨a28, f28, k28⟩, (h1.mono (by omega)), B28, .nil, fun _ => .nil⟩ (.cons ⟨L_Many, p29, _, _, _, _, by rw [e_Many]; exact ⟨a29, f29, k29⟩, (h2.mono (by omega)), B29, .nil, fun _ => .nil⟩ .nil))))))).mono (by omega))⟩
  have O27 := (S7 12).1
  have O28 := (S7 12).2.1
  have O29 := (S7 12).2.2
  have i_bool : IsiG G mg "bool" (.ty "bool") (.type "bool") is_bool := ⟨.ty _, isiG_of btB_ok fm_nil fm_nil⟩
  have F30 := fun_mk (st := st_L_is_so) l30 c30 k30
  have O30 := ok_L_is_so (P := l.prog) (w := w) (mg := mg) (base := base) (G := G) (k := 13) F30 m_bool m_isinstance (GFn.of (PySem.W.mg_of X N a14) F14.kp (O14.mono (by omega)) B14) (.cons ⟨L_Kind, p17, _, _, _, _, by rw [e_Kind]; exact ⟨a17, f17, k17⟩, (O17.mono (by omega)), B17, .nil, fun _ => .nil⟩ (.cons ⟨L_Word, p18, _, _, _, _, by rw [e_Word]; exact ⟨a18, f18, k18⟩, (O18.mono (by omega)), B18, .nil, fun _ => .nil⟩ (.cons ⟨L_Run, p19, _, _, _, _, by rw [e_Run]; exact ⟨a19, f19, k19⟩, (O19.mono (by omega)), B19, .nil, fun _ => .nil⟩ (.cons ⟨L_Row, p20, _, _, _, _, by rw [e_Row]; exact ⟨a20, f20, k20⟩, (O20.mono (by omega)), B20, .nil, fun _ => .nil⟩ (.cons ⟨L_Pick, p21, _, _, _, _, by rw [e_Pick]; exact ⟨a21, f21, k21⟩, (O21.mono (by omega)), B21, .nil, fun _ => .nil⟩ (.cons ⟨L_Many, p22, _, _, _, _, by rw [e_Many]; exact ⟨a22, f22, k22⟩, (O22.mono (by omega)), B22, .nil, fun _ => .nil⟩ .nil)))))) i_bool (GFn.of (PySem.W.mg_of X N a23) F23.kp (O23.mono (by omega)) B23) (.cons ⟨L_Kind, p24, _, _, _, _, by rw [e_Kind]; exact ⟨a24, f24, k24⟩, (O24.mono (by omega)), B24, .nil, fun _ => .nil⟩ (.cons ⟨L_Word, p25, _, _, _, _, by rw [e_Word]; exact ⟨a25, f25, k25⟩, (O25.mono (by omega)), B25, .nil, fun _ => .nil⟩ (.cons ⟨L_Run, p26, _, _, _, _, by rw [e_Run]; exact ⟨a26, f26, k26⟩, (O26.mono (by omega)), B26, .nil, fun _ => .nil⟩ (.cons ⟨L_Row, p27, _, _, _, _, by rw [e_Row]; exact ⟨a27, f27, k27⟩, (O27.mono (by omega)), B27, .nil, fun _ => .nil⟩ (.cons ⟨L_Pick, p28, _, _, _, _, by rw [e_Pick]; exact ⟨a28, f28, k28⟩, (O28.mono (by omega)), B28, .nil, fun _ => .nil⟩ (.cons ⟨L_Many, p29, _, _, _, _, by rw [e_Many]; exact ⟨a29, f29, k29⟩, (O29.mono (by omega)), B29, .nil, fun _ => .nil⟩ .nil))))))
  have F31 := fun_mk (st := st_law) l31 c31 k31
  have B0 := F0.binds (ps := ["_law_script", "_law_k"]) fun _ _ _ _ _ _ us hl => match us, hl with | [_, _], _ => rfl
  have B30 := F30.binds (ps := ["_law_found", "_law_kind_here", "_law_tree_here"]) fun _ _ _ _ _ _ us hl => match us, hl with | [_, _, _], _ => rfl
  have B13 := F13.binds (ps := ["_law_kind_here"]) fun _ _ _ _ _ _ us hl => match us, hl with | [_], _ => rfl
  have O31 := ok_law (P := l.prog) (w := w) (mg := mg) (base := base) (G := G) (k := 14) F31 m_len m_max m_range (GFn.of (PySem.W.mg_of X N a0) F0.kp (O0.mono (by omega)) B0) (GFn.of (PySem.W.mg_of X N a5) F5.kp (O5.mono (by omega)) B5) (GFn.of (PySem.W.mg_of X N a6) F6.kp (O6.mono (by omega)) B6) (GFn.of (PySem.W.mg_of X N a3) F3.kp (O3.mono (by omega)) B3) (GFn.of (PySem.W.mg_of X N a12) F12.kp (O12.mono (by omega)) B12) (GFn.of (PySem.W.mg_of X N a14) F14.kp (O14.mono (by omega)) B14) (GFn.of (PySem.W.mg_of X N a30) F30.kp (O30.mono (by omega)) B30) (GFn.of (PySem.W.mg_of X N a16) F16.kp (O16.mono (by omega)) B16) (GFn.of (PySem.W.mg_of X N a13) F13.kp (O13.mono (by omega)) B13)
  exact fnok_L O31

end Y
set_option maxRecDepth 100000 in
set_option maxHeartbeats 0 in
theorem PySem.Challenge.cw_toandfro_k02_whole_trees_fit_holds : PySem.Challenge.rw_toandfro_k02_whole_trees_fit.Holds := by
  w_on; o_law; k_head; (case hw => w_witness2)
  k_fill
  refine L2.walk_of (l := PySem.Challenge.rw_toandfro_k02_whole_trees_fit) (n := 63) (k := 15) (x := "_law_script") (CX := fun w => L2.CX (PySem.Challenge.rw_toandfro_k02_whole_trees_fit).prog w) (sp := fun w => Z.spL _ Y.f_law) rfl (by decide) rfl ⟨rfl, by decide, by decide⟩ (fun w h Y => PySem.W.kIn_of Y) ?F (fun w H a ns hl hO hS G e => Z.law_sp hO (by rw [e]; exact hS) (Y.law_true ns hl)) (fun _ _ _ _ _ h => Z.cx_never h)
  case F =>
    intro w mg fa h KX N hmg
    refine' Y.all_mk KX N hmg ?A0 ?A1 ?A2 ?A3 ?A4 ?A5 ?a0 ?l0 ?c0 ?k0 ?a1 ?l1 ?c1 ?k1 ?a2 ?l2 ?c2 ?k2 ?a3 ?l3 ?c3 ?k3 ?a4 ?l4 ?c4 ?k4 ?a5 ?l5 ?c5 ?k5 ?a6 ?l6 ?c6 ?k6 ?a7 ?l7 ?t7 ?v7 ?c7 ?k7 ?f7 ?a8 ?l8 ?c8 ?k8 ?f8 ?a9 ?l9 ?c9 ?k9 ?f9 ?a10 ?l10 ?t10 ?v10 ?c10 ?k10 ?f10 ?a11 ?l11 ?c11 ?k11 ?f11 ?a12 ?l12 ?c12 ?k12 ?a13 ?l13 ?c13 ?k13 ?a14 ?l14 ?c14 ?k14 ?a15 ?l15 ?c15 ?k15 ?a16 ?l16 ?c16 ?k16 ?a17 ?l17 ?c17 ?k17 ?f17 ?a18 ?l18 ?c18 ?k18 ?f18 ?a19 ?l19 ?c19 ?k19 ?f19 ?a20 ?l20 ?c20 ?k20 ?f20 ?a21 ?l21 ?c21 ?k21 ?f21 ?a22 ?l22 ?c22 ?k22 ?f22 ?a23 ?l23 ?c23 ?k23 ?a24 ?l24 ?c24 ?k24 ?f24 ?a25 ?l25 ?c25 ?k25 ?f25 ?a26 ?l26 ?c26 ?k26 ?f26 ?a27 ?l27 ?c27 ?k27 ?f27 ?a28 ?l28 ?c28 ?k28 ?f28 ?a29 ?l29 ?c29 ?k29 ?f29 ?a30 ?l30 ?c30 ?k30 ?a31 ?l31 ?c31 ?k31 ?z_all ?z_bool ?z_enumerate ?z_int ?z_isinstance ?z_len ?z_list ?z_max ?z_min ?z_range ?z_tuple ?z_zip ?pg5 ?hd5 ?po5 ?sa5 ?ha5 ?hm5 ?hn0 ?ht0 ?nf5_between ?nf5_part ?pg4 ?hd4 ?po4 ?sa4 ?ha4 ?hm4 ?nf4_parts ?pg3 ?hd3 ?po3 ?sa3 ?ha3 ?hm3 ?nf3_parts ?pg2 ?hd2 ?po2 ?sa2 ?ha2 ?hm2 ?nf2_most ?nf2_least ?nf2_signs ?pg1 ?hd1 ?po1 ?sa1 ?ha1 ?hm1 ?nf1_text ?pg0 ?hd0 ?po0 ?sa0 ?ha0 ?hm0 ?mk1 ?kc1 ?mk2 ?kc2 ?mk3 ?kc3 ?mk4 ?kc4 ?mk5 ?kc5
    (case A0 => k_is); (case A1 => k_is); (case A2 => k_is); (case A3 => k_is)
    (case A4 => k_is); (case A5 => k_is); (case a0 => k_is); (case l0 => k_is)
    (case c0 => k_is); (case k0 => k_is); (case a1 => k_is); (case l1 => k_is)
    (case c1 => k_is); (case k1 => k_is); (case a2 => k_is); (case l2 => k_is)
    (case c2 => k_is); (case k2 => k_is); (case a3 => k_is); (case l3 => k_is)
    (case c3 => k_is); (case k3 => k_is); (case a4 => k_is); (case l4 => k_is)
    (case c4 => k_is); (case k4 => k_is); (case a5 => k_is); (case l5 => k_is)
    (case c5 => k_is); (case k5 => k_is); (case a6 => k_is); (case l6 => k_is)
    (case c6 => k_is); (case k6 => k_is); (case a7 => k_is); (case l7 => k_is)
    (case t7 => k_is); (case v7 => exact (.cons ⟨_, rfl⟩ .nil)); (case c7 => k_is); (case k7 => k_is)
    (case f7 => k_is); (case a8 => k_is); (case l8 => k_is); (case c8 => k_is)
    (case k8 => k_is); (case f8 => k_is); (case a9 => k_is); (case l9 => k_is)
    (case c9 => k_is); (case k9 => k_is); (case f9 => k_is); (case a10 => k_is)
    (case l10 => k_is); (case t10 => k_is); (case v10 => exact (.cons rfl .nil)); (case c10 => k_is)
    (case k10 => k_is); (case f10 => k_is); (case a11 => k_is); (case l11 => k_is)
    (case c11 => k_is); (case k11 => k_is); (case f11 => k_is); (case a12 => k_is)
    (case l12 => k_is); (case c12 => k_is); (case k12 => k_is); (case a13 => k_is)
    (case l13 => k_is); (case c13 => k_is); (case k13 => k_is); (case a14 => k_is)
    (case l14 => k_is); (case c14 => k_is); (case k14 => k_is); (case a15 => k_is)
    (case l15 => k_is); (case c15 => k_is); (case k15 => k_is); (case a16 => k_is)
    (case l16 => k_is); (case c16 => k_is); (case k16 => k_is); (case a17 => k_is)
    (case l17 => k_is); (case c17 => k_is); (case k17 => k_is); (case f17 => k_is)
    (case a18 => k_is); (case l18 => k_is); (case c18 => k_is); (case k18 => k_is)
    (case f18 => k_is); (case a19 => k_is); (case l19 => k_is); (case c19 => k_is)
    (case k19 => k_is); (case f19 => k_is); (case a20 => k_is); (case l20 => k_is)
    (case c20 => k_is); (case k20 => k_is); (case f20 => k_is); (case a21 => k_is)
    (case l21 => k_is); (case c21 => k_is); (case k21 => k_is); (case f21 => k_is)
    (case a22 => k_is); (case l22 => k_is); (case c22 => k_is); (case k22 => k_is)
    (case f22 => k_is); (case a23 => k_is); (case l23 => k_is); (case c23 => k_is)
    (case k23 => k_is); (case a24 => k_is); (case l24 => k_is); (case c24 => k_is)
    (case k24 => k_is); (case f24 => k_is); (case a25 => k_is); (case l25 => k_is)
    (case c25 => k_is); (case k25 => k_is); (case f25 => k_is); (case a26 => k_is)
    (case l26 => k_is); (case c26 => k_is); (case k26 => k_is); (case f26 => k_is)
    (case a27 => k_is); (case l27 => k_is); (case c27 => k_is); (case k27 => k_is)
    (case f27 => k_is); (case a28 => k_is); (case l28 => k_is); (case c28 => k_is)
    (case k28 => k_is); (case f28 => k_is); (case a29 => k_is); (case l29 => k_is)
    (case c29 => k_is); (case k29 => k_is); (case f29 => k_is); (case a30 => k_is)
    (case l30 => k_is); (case c30 => k_is); (case k30 => k_is); (case a31 => k_is)
    (case l31 => k_is); (case c31 => k_is); (case k31 => k_is); (case z_all => k_is)
    (case z_bool => k_is); (case z_enumerate => k_is); (case z_int => k_is); (case z_isinstance => k_is)
    (case z_len => k_is); (case z_list => k_is); (case z_max => k_is); (case z_min => k_is)
    (case z_range => k_is); (case z_tuple => k_is); (case z_zip => k_is); (case pg5 => k_is)
    (case hd5 => k_is); (case po5 => k_is); (case sa5 => k_is); (case ha5 => k_is)
    (case hm5 => k_is); (case hn0 => k_is); (case ht0 => k_is); (case nf5_between => k_is)
    (case nf5_part => k_is); (case pg4 => k_is); (case hd4 => k_is); (case po4 => k_is)
    (case sa4 => k_is); (case ha4 => k_is); (case hm4 => k_is); (case nf4_parts => k_is)
    (case pg3 => k_is); (case hd3 => k_is); (case po3 => k_is); (case sa3 => k_is)
    (case ha3 => k_is); (case hm3 => k_is); (case nf3_parts => k_is); (case pg2 => k_is)
    (case hd2 => k_is); (case po2 => k_is); (case sa2 => k_is); (case ha2 => k_is)
    (case hm2 => k_is); (case nf2_most => k_is); (case nf2_least => k_is); (case nf2_signs => k_is)
    (case pg1 => k_is); (case hd1 => k_is); (case po1 => k_is); (case sa1 => k_is)
    (case ha1 => k_is); (case hm1 => k_is); (case nf1_text => k_is); (case pg0 => k_is)
    (case hd0 => k_is); (case po0 => k_is); (case sa0 => k_is); (case ha0 => k_is)
    (case hm0 => k_is); (case mk1 => k_is); (case kc1 => k_is); (case mk2 => k_is)
    (case kc2 => k_is); (case mk3 => k_is); (case kc3 => k_is); (case mk4 => k_is)
    (case kc4 => k_is); (case mk5 => k_is); (case kc5 => k_is)
