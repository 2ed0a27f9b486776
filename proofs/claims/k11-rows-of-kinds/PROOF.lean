import PyProof.Rows.All
import Wide.All
import OpenK.AllK
import Wide.FinOn
import HandS.ForMost
import HandS.Exc
import HandS.TryOnly
import HandS.ExcOwn
import HandS.WordsExc
import KE.DataEq
import HandS.IsInst
import HandS.Style
import HandS.SetKeys
import HandS.Conv
import HandS.Flt
import HandS.ExcIs
import HandS.ExcValue
import KE.KExcIs
import HandS.ExcInit
import HandS.SetFor
import HandS.Strs
import HandS.Iter
import HandS.SortInts
import HandS.Zip
import HandS.TupAny
import HandS.Defaults
import HandS.ReplaceLit
import HandS.ReplaceList
import HandS.Codes
import HandS.Text
import KE.DataMinMax
import PyProof.StrBlock2
import PyProof.ListStr
import PySem.Challenge.RW_toandfro_k11_rows_of_kinds
set_option Elab.async false
set_option linter.all false
set_option maxRecDepth 100000
set_option maxHeartbeats 8000000
/-! A small verified semantics over the hand layer: values as trees (D), changeable cells, combinators. -/
namespace Z
open PySem PySem.Spec PyProof.Rows L2

/-- a value as a tree: what is not changed any more -/
inductive D where
  | non | bl (b : Bool) | int (i : Int) | str (s : List Nat) | lst (l : List D) | tup (l : List D) | ins (c : String) (fs : List (String × D)) | exc (c : String) (fs : List (String × D))

/-- what a slot holds: a tree, or a cell that may be changed -/
inductive Sv where
  | d (x : D) | c (n : Nat)

inductive Cell where
  | lst (xs : List Sv) | dct (kvs : List (Key × Sv)) | ins (c : String) (fs : List (String × Sv)) | fz | dtt (ks : List (List Key))

/-- the written part, and the classes by their names -/
structure Gx where
  K : PySem.W.Frag
  cls : String → Addr

variable {G : Gx}

/-- an exception object of the class cls, its dict d, that no frame carries any more -/
def ExA (cls : Value) (d : Option Addr) (a : Addr) : HO := .ext fun h => ∃ (oe : Obj) (vs : Array Value), h.get? a = some oe ∧ Zc cls d oe ∧ oe.data = .fields vs
mutual
inductive Rp (G : Gx) (F : Hp) : V → D → Prop
  | non : Rp G F .non .non
  | bl (b : Bool) : Rp G F (.bl b) (.bl b)
  | int (i : Int) : Rp G F (.int i) (.int i)
  | str (x : Str) : Rp G F (.str x) (.str x.cps.toList)
  | lst {a : Addr} {vs : List V} {ds : List D} : SqL G.K F a vs → RpL G F vs ds → Rp G F (.ref a) (.lst ds)
  | tup {a : Addr} {vs : List V} {ds : List D} : SqT G.K F a vs → RpL G F vs ds → Rp G F (.ref a) (.tup ds)
  | ins {a dx : Addr} {c : String} {fs : List (Str × V)} {gs : List (String × D)} : F a = some (.ins (G.cls c) dx fs) → RpF G F fs gs → Rp G F (.ref a) (.ins c gs)
  | exc0 {a : Addr} {c : String} : F a = some (ExA (.ref (G.cls c)) none a) → Rp G F (.ref a) (.exc c [])
  | excD {a dd : Addr} {c : String} {fs : List (Str × V)} {gs : List (String × D)} : F a = some (ExA (.ref (G.cls c)) (some dd) a) → F dd = some (.xd fs) → RpF G F fs gs → Rp G F (.ref a) (.exc c gs)
inductive RpL (G : Gx) (F : Hp) : List V → List D → Prop
  | nil : RpL G F [] []
  | cons {v : V} {d : D} {vs : List V} {ds : List D} : Rp G F v d → RpL G F vs ds → RpL G F (v :: vs) (d :: ds)
inductive RpF (G : Gx) (F : Hp) : List (Str × V) → List (String × D) → Prop
  | nil : RpF G F [] []
  | cons {x : String} {v : V} {d : D} {fs : List (Str × V)} {gs : List (String × D)} : Rp G F v d → RpF G F fs gs → RpF G F ((Str.ofString x, v) :: fs) ((x, d) :: gs)
end

def Ex (H H' : Hp) : Prop := ∀ a o, H a = some o → H' a = some o
theorem Ex.refl (H : Hp) : Ex H H := fun _ _ h => h
theorem Ex.trans {H H1 H2 : Hp} (a : Ex H H1) (b : Ex H1 H2) : Ex H H2 := fun x o h => b x o (a x o h)
theorem Ex.new {H : Hp} {p : Addr} {o : HO} (h : H p = none) : Ex H (upd H p o) := fun a u e => by
  rw [upd_ne (ne_of_none e h)]; exact e
theorem Ex.none {H H' : Hp} (e : Ex H H') {a : Addr} (h : H' a = none) : H a = none := by
  cases q : H a with
  | none => rfl
  | some o => rw [e a o q] at h; cases h
theorem Ex.rd {H H' : Hp} {a : Addr} {u : HO} (e : Ex H H') (h : Rd H a u) : Rd H' a u := by
  rcases h with h | ⟨o, h⟩
  · exact .inl (e a _ h)
  · exact .inr ⟨o, e a _ h⟩
theorem Ex.l {K : PySem.W.Frag} {H H' : Hp} {a : Addr} {xs : List V} (e : Ex H H') (h : SqL K H a xs) : SqL K H' a xs := by
  rcases h with h | h
  · exact .inl (e.rd h)
  · exact .inr h
theorem Ex.t {K : PySem.W.Frag} {H H' : Hp} {a : Addr} {xs : List V} (e : Ex H H') (h : SqT K H a xs) : SqT K H' a xs := by
  rcases h with h | h
  · exact .inl (e.rd h)
  · exact .inr h

mutual
theorem Rp.mono {F F' : Hp} (e : Ex F F') : ∀ {v : V} {d : D}, Rp G F v d → Rp G F' v d
  | _, _, .non => .non
  | _, _, .bl b => .bl b
  | _, _, .int i => .int i
  | _, _, .str x => .str x
  | _, _, .lst h r => .lst (e.l h) (RpL.mono e r)
  | _, _, .tup h r => .tup (e.t h) (RpL.mono e r)
  | _, _, .ins h r => .ins (e _ _ h) (RpF.mono e r)
  | _, _, .exc0 h => .exc0 (e _ _ h)
  | _, _, .excD h k r => .excD (e _ _ h) (e _ _ k) (RpF.mono e r)
theorem RpL.mono {F F' : Hp} (e : Ex F F') : ∀ {v : List V} {d : List D}, RpL G F v d → RpL G F' v d
  | _, _, .nil => .nil
  | _, _, .cons h r => .cons (Rp.mono e h) (RpL.mono e r)
theorem RpF.mono {F F' : Hp} (e : Ex F F') : ∀ {v : List (Str × V)} {d : List (String × D)}, RpF G F v d → RpF G F' v d
  | _, _, .nil => .nil
  | _, _, .cons h r => .cons (Rp.mono e h) (RpF.mono e r)
end

/-- slots and cells' items -/
inductive Rs (G : Gx) (F : Hp) (ρ : List Addr) : V → Sv → Prop
  | d {v : V} {x : D} : Rp G F v x → Rs G F ρ v (.d x)
  | c {n : Nat} {a : Addr} : ρ[n]? = some a → Rs G F ρ (.ref a) (.c n)
inductive RsL (G : Gx) (F : Hp) (ρ : List Addr) : List V → List Sv → Prop
  | nil : RsL G F ρ [] []
  | cons {v : V} {x : Sv} {vs : List V} {xs : List Sv} : Rs G F ρ v x → RsL G F ρ vs xs → RsL G F ρ (v :: vs) (x :: xs)
inductive RsK (G : Gx) (F : Hp) (ρ : List Addr) : List (Key × V) → List (Key × Sv) → Prop
  | nil : RsK G F ρ [] []
  | cons {k : Key} {v : V} {x : Sv} {vs : List (Key × V)} {xs : List (Key × Sv)} : Rs G F ρ v x → RsK G F ρ vs xs → RsK G F ρ ((k, v) :: vs) ((k, x) :: xs)
inductive RsF (G : Gx) (F : Hp) (ρ : List Addr) : List (Str × V) → List (String × Sv) → Prop
  | nil : RsF G F ρ [] []
  | cons {k : String} {v : V} {x : Sv} {vs : List (Str × V)} {xs : List (String × Sv)} : Rs G F ρ v x → RsF G F ρ vs xs → RsF G F ρ ((Str.ofString k, v) :: vs) ((k, x) :: xs)
/-- the frame's slots -/
inductive Sl (G : Gx) (F : Hp) (ρ : List Addr) : L2.St → List (Option Sv) → Prop
  | nil : Sl G F ρ [] []
  | un {o : Option V} {vs : L2.St} {xs : List (Option Sv)} : Sl G F ρ vs xs → Sl G F ρ (o :: vs) (none :: xs)
  | cons {v : V} {x : Sv} {vs : L2.St} {xs : List (Option Sv)} : Rs G F ρ v x → Sl G F ρ vs xs → Sl G F ρ (some v :: vs) (some x :: xs)

/-- what is known grows: the trees' heap, the cells' addresses -/
structure Gr (F F' : Hp) (ρ ρ' : List Addr) : Prop where
  f : Ex F F'
  r : ∃ t, ρ' = ρ ++ t
theorem Gr.refl (F : Hp) (ρ : List Addr) : Gr F F ρ ρ := ⟨Ex.refl F, [], by simp⟩
theorem Gr.trans {F F1 F2 : Hp} {ρ ρ1 ρ2 : List Addr} (a : Gr F F1 ρ ρ1) (b : Gr F1 F2 ρ1 ρ2) : Gr F F2 ρ ρ2 := by
  obtain ⟨a1, t, a2⟩ := a
  obtain ⟨b1, u, b2⟩ := b
  exact ⟨a1.trans b1, t ++ u, by rw [b2, a2, List.append_assoc]⟩
theorem Gr.at {F F' : Hp} {ρ ρ' : List Addr} (g : Gr F F' ρ ρ') {n : Nat} {a : Addr} (h : ρ[n]? = some a) : ρ'[n]? = some a := by
  obtain ⟨_, t, e⟩ := g
  rw [e, List.getElem?_append_left (List.getElem?_eq_some_iff.mp h).1]
  exact h
section
variable {F F' : Hp} {ρ ρ' : List Addr}
theorem Rs.mono (g : Gr F F' ρ ρ') {v : V} {x : Sv} (h : Rs G F ρ v x) : Rs G F' ρ' v x := by
  cases h with
  | d h => exact .d (h.mono g.f)
  | c h => exact .c (g.at h)
theorem RsL.mono (g : Gr F F' ρ ρ') : ∀ {v : List V} {x : List Sv}, RsL G F ρ v x → RsL G F' ρ' v x
  | _, _, .nil => .nil
  | _, _, .cons h r => .cons (h.mono g) (RsL.mono g r)
theorem RsK.mono (g : Gr F F' ρ ρ') : ∀ {v : List (Key × V)} {x : List (Key × Sv)}, RsK G F ρ v x → RsK G F' ρ' v x
  | _, _, .nil => .nil
  | _, _, .cons h r => .cons (h.mono g) (RsK.mono g r)
theorem RsF.mono (g : Gr F F' ρ ρ') : ∀ {v : List (Str × V)} {x : List (String × Sv)}, RsF G F ρ v x → RsF G F' ρ' v x
  | _, _, .nil => .nil
  | _, _, .cons h r => .cons (h.mono g) (RsF.mono g r)
theorem Sl.mono (g : Gr F F' ρ ρ') : ∀ {v : L2.St} {x : List (Option Sv)}, Sl G F ρ v x → Sl G F' ρ' v x
  | _, _, .nil => .nil
  | _, _, .un r => .un (Sl.mono g r)
  | _, _, .cons h r => .cons (h.mono g) (Sl.mono g r)
theorem Sl.get : ∀ {σ : L2.St} {δ : List (Option Sv)} {i : Nat} {x : Sv}, Sl G F ρ σ δ → δ[i]? = some (some x) → ∃ v, σ[i]? = some (some v) ∧ Rs G F ρ v x
  | _, _, _, _, .nil, h => by simp at h
  | _, _, 0, _, .un _, h => by simp at h
  | _, _, i + 1, x, .un r, h => by
    obtain ⟨v, e, q⟩ := Sl.get (i := i) (x := x) r (by simpa using h)
    exact ⟨v, by simpa using e, q⟩
  | _, _, 0, x, .cons (v := v) q _, h => by
    simp at h; subst h
    exact ⟨v, rfl, q⟩
  | _, _, i + 1, x, .cons _ r, h => by
    obtain ⟨v, e, q⟩ := Sl.get (i := i) (x := x) r (by simpa using h)
    exact ⟨v, by simpa using e, q⟩
theorem Sl.set {v : V} {x : Sv} (q : Rs G F ρ v x) : ∀ {σ : L2.St} {δ : List (Option Sv)} (i : Nat), Sl G F ρ σ δ → Sl G F ρ (σ.set i (some v)) (δ.set i (some x))
  | _, _, _, .nil => .nil
  | _, _, 0, .un r => .cons q r
  | _, _, i + 1, .un r => .un (Sl.set q i r)
  | _, _, 0, .cons _ r => .cons q r
  | _, _, i + 1, .cons p r => .cons p (Sl.set q i r)
theorem Sl.un_at : ∀ {σ : L2.St} {δ : List (Option Sv)} (i : Nat) (o : Option V), Sl G F ρ σ δ → Sl G F ρ (σ.set i o) (δ.set i none)
  | _, _, _, _, .nil => .nil
  | _, _, 0, o, .un r => .un r
  | _, _, i + 1, o, .un r => .un (Sl.un_at i o r)
  | _, _, 0, o, .cons _ r => .un r
  | _, _, i + 1, o, .cons p r => .cons p (Sl.un_at i o r)
theorem Sl.len : ∀ {σ : L2.St} {δ : List (Option Sv)}, Sl G F ρ σ δ → σ.length = δ.length
  | _, _, .nil => rfl
  | _, _, .un r => by simp [Sl.len r]
  | _, _, .cons _ r => by simp [Sl.len r]
theorem RpL.len : ∀ {v : List V} {x : List D}, RpL G F v x → v.length = x.length
  | _, _, .nil => rfl
  | _, _, .cons _ r => by simp [RpL.len r]
theorem RsL.len : ∀ {v : List V} {x : List Sv}, RsL G F ρ v x → v.length = x.length
  | _, _, .nil => rfl
  | _, _, .cons _ r => by simp [RsL.len r]
theorem RsL.get : ∀ {v : List V} {x : List Sv} {i : Nat} {y : Sv}, RsL G F ρ v x → x[i]? = some y → ∃ u, v[i]? = some u ∧ Rs G F ρ u y
  | _, _, _, _, .nil, h => by simp at h
  | _, _, 0, _, .cons (v := u) q _, h => by simp at h; subst h; exact ⟨u, rfl, q⟩
  | _, _, i + 1, y, .cons _ r, h => by
    obtain ⟨u, e, q⟩ := RsL.get (i := i) (y := y) r (by simpa using h)
    exact ⟨u, by simpa using e, q⟩
theorem RsL.get' : ∀ {v : List V} {x : List Sv} {i : Nat} {u : V}, RsL G F ρ v x → v[i]? = some u → ∃ y, x[i]? = some y ∧ Rs G F ρ u y
  | _, _, _, _, .nil, h => by simp at h
  | _, _, 0, _, .cons (x := y) q _, h => by simp at h; subst h; exact ⟨y, rfl, q⟩
  | _, _, i + 1, u, .cons _ r, h => by
    obtain ⟨y, e, q⟩ := RsL.get' (i := i) (u := u) r (by simpa using h)
    exact ⟨y, by simpa using e, q⟩
theorem RsL.app : ∀ {v w : List V} {x y : List Sv}, RsL G F ρ v x → RsL G F ρ w y → RsL G F ρ (v ++ w) (x ++ y)
  | _, _, _, _, .nil, s => s
  | _, _, _, _, .cons h r, s => .cons h (RsL.app r s)
theorem RsL.take : ∀ {v : List V} {x : List Sv} (n : Nat), RsL G F ρ v x → RsL G F ρ (v.take n) (x.take n)
  | _, _, 0, _ => .nil
  | _, _, _ + 1, .nil => .nil
  | _, _, n + 1, .cons h r => .cons h (RsL.take n r)
theorem RsL.drop : ∀ {v : List V} {x : List Sv} (n : Nat), RsL G F ρ v x → RsL G F ρ (v.drop n) (x.drop n)
  | _, _, 0, r => r
  | _, _, _ + 1, .nil => .nil
  | _, _, n + 1, .cons _ r => RsL.drop n r
theorem RsL.rev : ∀ {v : List V} {x : List Sv}, RsL G F ρ v x → RsL G F ρ v.reverse x.reverse
  | _, _, .nil => .nil
  | _, _, .cons h r => by
    rw [List.reverse_cons, List.reverse_cons]
    exact (RsL.rev r).app (.cons h .nil)
theorem RsL.set {u : V} {y : Sv} (q : Rs G F ρ u y) : ∀ {v : List V} {x : List Sv} (i : Nat), RsL G F ρ v x → RsL G F ρ (v.set i u) (x.set i y)
  | _, _, _, .nil => .nil
  | _, _, 0, .cons _ r => .cons q r
  | _, _, i + 1, .cons h r => .cons h (RsL.set q i r)
theorem RsL.dropLast {v : List V} {x : List Sv} (r : RsL G F ρ v x) : RsL G F ρ v.dropLast x.dropLast := by
  rw [List.dropLast_eq_take, List.dropLast_eq_take, r.len]
  exact r.take _
theorem RsL.erase : ∀ {v : List V} {x : List Sv} (i : Nat), RsL G F ρ v x → RsL G F ρ (v.eraseIdx i) (x.eraseIdx i)
  | _, _, _, .nil => .nil
  | _, _, 0, .cons _ r => r
  | _, _, i + 1, .cons h r => .cons h (RsL.erase i r)
theorem RsL.ofD : ∀ {v : List V} {x : List D}, RpL G F v x → RsL G F ρ v (x.map Sv.d)
  | _, _, .nil => .nil
  | _, _, .cons h r => .cons (.d h) (RsL.ofD r)
theorem RsL.toD : ∀ {v : List V} {x : List D}, RsL G F ρ v (x.map Sv.d) → RpL G F v x
  | _, [], .nil => .nil
  | _, _ :: _, .cons (.d h) r => .cons h (RsL.toD r)
end

/-! ### the state -/
def CellOk (G : Gx) (F : Hp) (ρ : List Addr) (H : Hp) (a : Addr) : Cell → Prop
  | .lst xs => F a = none ∧ ∃ vs, H a = some (.lst vs) ∧ RsL G F ρ vs xs
  | .dct kvs => F a = none ∧ ∃ vs, H a = some (.dK vs) ∧ RsK G F ρ vs kvs
  | .ins c fs => F a = none ∧ ∃ dx vs, H a = some (.ins (G.cls c) dx vs) ∧ RsF G F ρ vs fs
  | .fz => True
  | .dtt ks => F a = none ∧ ∃ vs : List (List Key × V), H a = some (.dT vs) ∧ vs.map (·.1) = ks
structure Wf (G : Gx) (F : Hp) (ρ : List Addr) (μ : List Cell) (H : Hp) : Prop where
  ex : Ex F H
  len : ρ.length = μ.length
  nd : ρ.Nodup
  cell : ∀ (n : Nat) (a : Addr) (c : Cell), ρ[n]? = some a → μ[n]? = some c → CellOk G F ρ H a c
  dom : ∀ (a : Addr), a ∈ ρ → H a ≠ none
end Z
namespace Z
open PySem PySem.Spec PyProof.Rows L2

/-! ### what is carried out -/
structure Exn where
  c : String
  fs : List (String × D)
abbrev Dl := List (Option Sv)
abbrev Mu := List Cell
abbrev Rz (α : Type) := Option (Except Exn α × Mu)
abbrev Fz (α : Type) := Dl → Mu → Rz α
def Rz.bind {α β : Type} (r : Rz α) (k : α → Mu → Rz β) : Rz β := match r with
  | none => none
  | some (.error x, μ) => some (.error x, μ)
  | some (.ok a, μ) => k a μ
@[simp] theorem Rz.bind_ok {α β : Type} (a : α) (μ : Mu) (k : α → Mu → Rz β) : Rz.bind (some (.ok a, μ)) k = k a μ := rfl
@[simp] theorem Rz.bind_err {α β : Type} (x : Exn) (μ : Mu) (k : α → Mu → Rz β) : Rz.bind (some (.error x, μ)) k = some (.error x, μ) := rfl
@[simp] theorem Rz.bind_none {α β : Type} (k : α → Mu → Rz β) : Rz.bind none k = none := rfl

def XRel (G : Gx) (F : Hp) (cls : Value) (d : Option Addr) (x : Exn) : Prop :=
  cls = .ref (G.cls x.c) ∧ ((x.fs = [] ∧ d = none) ∨ ∃ dd vs, d = some dd ∧ F dd = some (.xd vs) ∧ RpF G F vs x.fs)
def Post (G : Gx) (W : WX) (σ : L2.St) (F : Hp) (ρ : List Addr) {α β : Type} (rel : Hp → List Addr → α → β → Prop) (Q : α → Hp → Prop) : Except Exn β × Mu → Prop
  | (.ok b, μ) => ∀ a F' ρ' H', Gr F F' ρ ρ' → Wf G F' ρ' μ H' → rel F' ρ' a b → Q a H'
  | (.error x, μ) => ∀ cls d F' ρ' H', Gr F F' ρ ρ' → Wf G F' ρ' μ H' → XRel G F' cls d x → W cls d σ H'
def zG (G : Gx) (W : WX) {α β : Type} (rel : Hp → List Addr → α → β → Prop) (f : Fz β) : L2.St → Hp → (α → Hp → Prop) → Prop := fun σ H Q =>
  ∃ F ρ δ μ r, Wf G F ρ μ H ∧ Sl G F ρ σ δ ∧ f δ μ = some r ∧ Post G W σ F ρ rel Q r
section
variable {G : Gx} {W : WX} {σ : L2.St} {F F1 : Hp} {ρ ρ1 : List Addr} {H : Hp} {δ : Dl} {μ : Mu} {α β α' β' : Type}
theorem Post.mono {rel : Hp → List Addr → α → β → Prop} {Q : α → Hp → Prop} (g : Gr F F1 ρ ρ1) : ∀ {r : Except Exn β × Mu}, Post G W σ F ρ rel Q r → Post G W σ F1 ρ1 rel Q r
  | (.ok _, _), p => fun a F' ρ' H' g' w r => p a F' ρ' H' (g.trans g') w r
  | (.error _, _), p => fun c d F' ρ' H' g' w r => p c d F' ρ' H' (g.trans g') w r
theorem Post.imp {rel : Hp → List Addr → α → β → Prop} {Q Q' : α → Hp → Prop} (h : ∀ a H, Q a H → Q' a H) : ∀ {r : Except Exn β × Mu}, Post G W σ F ρ rel Q r → Post G W σ F ρ rel Q' r
  | (.ok _, _), p => fun a F' ρ' H' g' w r => h _ _ (p a F' ρ' H' g' w r)
  | (.error _, _), p => p
theorem Post.ok {rel : Hp → List Addr → α → β → Prop} {Q : α → Hp → Prop} {b : β} (p : Post G W σ F ρ rel Q (.ok b, μ)) (w : Wf G F ρ μ H) {a : α} (r : rel F ρ a b) : Q a H := p a F ρ H (Gr.refl F ρ) w r
theorem zstep {f : Fz β'} {k : β' → Mu → Rz β} {r : Except Exn β × Mu} {rel : Hp → List Addr → α' → β' → Prop} {rel2 : Hp → List Addr → α → β → Prop} {Q2 : α → Hp → Prop} {Q : α' → Hp → Prop} (w : Wf G F ρ μ H) (s : Sl G F ρ σ δ)
    (e : (f δ μ).bind k = some r) (p : Post G W σ F ρ rel2 Q2 r)
    (cont : ∀ b μ1 a F1 ρ1 H1, Gr F F1 ρ ρ1 → Wf G F1 ρ1 μ1 H1 → Sl G F1 ρ1 σ δ → rel F1 ρ1 a b → k b μ1 = some r → Post G W σ F1 ρ1 rel2 Q2 r → Q a H1) : zG G W rel f σ H Q := by
  cases h : f δ μ with
  | none => rw [h] at e; cases e
  | some q =>
    obtain ⟨q, μ1⟩ := q
    rw [h] at e
    refine ⟨F, ρ, δ, μ, _, w, s, h, ?_⟩
    cases q with
    | error x =>
      have e' : (Except.error x, μ1) = r := Option.some.inj e
      subst e'
      exact p
    | ok b =>
      intro a F' ρ' H' g w' rr
      exact cont b μ1 a F' ρ' H' g w' (s.mono g) rr e (p.mono g)
/-- the last part -/
theorem zlast {f : Fz β} {r : Except Exn β × Mu} {rel : Hp → List Addr → α → β → Prop} {Q : α → Hp → Prop} (w : Wf G F ρ μ H) (s : Sl G F ρ σ δ) (e : f δ μ = some r) (p : Post G W σ F ρ rel Q r) : zG G W rel f σ H Q := ⟨F, ρ, δ, μ, r, w, s, e, p⟩
end
abbrev rEq3 {α : Type} : Hp → List Addr → α → α → Prop := fun _ _ a b => a = b
abbrev zE (G : Gx) (W : WX) (f : Fz Sv) : TE := zG G W (Rs G) f
abbrev zT (G : Gx) (W : WX) (f : Fz Bool) : TT := zG G W rEq3 f
abbrev zA (G : Gx) (W : WX) (f : Fz (List Sv)) : TA := zG G W (RsL G) f
abbrev zO (G : Gx) (W : WX) (f : Fz (Option Int)) : TO := zG G W rEq3 f

theorem peImp {X : Cx} {e : Expr} {t t' : TE} (h : PE X e t) (i : ∀ σ H Q, t' σ H Q → t σ H Q) : PE X e t' := ⟨fun pins s σ H Q I q => h.run pins s σ H Q I (i _ _ _ q)⟩
theorem ptImp {X : Cx} {e : Expr} {t t' : TT} (h : PT X e t) (i : ∀ σ H Q, t' σ H Q → t σ H Q) : PT X e t' := ⟨fun pins s σ H Q I q => h.run pins s σ H Q I (i _ _ _ q)⟩
theorem pwImp {X : Cx} {e : Expr} {t t' : TT} (h : PW X e t) (i : ∀ σ H Q, t' σ H Q → t σ H Q) : PW X e t' := ⟨fun wh pins s σ H Q I q => h.run wh pins s σ H Q I (i _ _ _ q)⟩
theorem paImp {X : Cx} {e : List Expr} {t t' : TA} (h : PA X e t) (i : ∀ σ H Q, t' σ H Q → t σ H Q) : PA X e t' := ⟨fun p pins s σ H Q I q => h.run p pins s σ H Q I (i _ _ _ q)⟩
theorem poImp {X : Cx} {e : Option Expr} {t t' : TO} (h : PO X e t) (i : ∀ σ H Q, t' σ H Q → t σ H Q) : PO X e t' := ⟨fun pins s σ H Q I q => h.run pins s σ H Q I (i _ _ _ q)⟩

/-! ### combinators -/
def fVar (i : Nat) : Fz Sv := fun δ μ => match δ[i]? with
  | some (some x) => some (.ok x, μ)
  | _ => none
def fC (d : D) : Fz Sv := fun _ μ => some (.ok (.d d), μ)
abbrev Op2 := Sv → Sv → Mu → Rz Sv
def fOp2 (o : Op2) (fa fb : Fz Sv) : Fz Sv := fun δ μ => (fa δ μ).bind fun a μ => (fb δ μ).bind fun b μ => o a b μ
abbrev Op1 := Sv → Mu → Rz Sv
def fOp1 (o : Op1) (fa : Fz Sv) : Fz Sv := fun δ μ => (fa δ μ).bind fun a μ => o a μ
def fNil : Fz (List Sv) := fun _ μ => some (.ok [], μ)
def fCons (fa : Fz Sv) (fr : Fz (List Sv)) : Fz (List Sv) := fun δ μ => (fa δ μ).bind fun a μ => (fr δ μ).bind fun r μ => some (.ok (a :: r), μ)
abbrev Opn := List Sv → Mu → Rz Sv
def fOpn (o : Opn) (fa : Fz (List Sv)) : Fz Sv := fun δ μ => (fa δ μ).bind fun a μ => o a μ
/-- tests -/
def fT (fa : Fz Sv) : Fz Bool := fun δ μ => (fa δ μ).bind fun a μ => match a with
  | .d (.bl b) => some (.ok b, μ)
  | _ => none
def fAnd (fa fb : Fz Bool) : Fz Bool := fun δ μ => (fa δ μ).bind fun a μ => if a = true then fb δ μ else some (.ok false, μ)
def fOr (fa fb : Fz Bool) : Fz Bool := fun δ μ => (fa δ μ).bind fun a μ => if a = true then some (.ok true, μ) else fb δ μ
def fNot (fa : Fz Bool) : Fz Bool := fun δ μ => (fa δ μ).bind fun a μ => some (.ok (!a), μ)
def fIf (fc : Fz Bool) (fa fb : Fz Sv) : Fz Sv := fun δ μ => (fc δ μ).bind fun c μ => if c = true then fa δ μ else fb δ μ
/-- a bool test as a value -/
def fV (fa : Fz Bool) : Fz Sv := fun δ μ => (fa δ μ).bind fun a μ => some (.ok (.d (.bl a)), μ)

section
variable {G : Gx} {X : Cx} {W : WX} {a b c e : Expr} {es : List Expr} {fa fb : Fz Sv} {fr : Fz (List Sv)} {pos : Pos} {ta tb : Fz Bool}
theorem z_var (i : Nat) {x : Str} (h : PE X (.Name x pos) (tVar i)) : PE X (.Name x pos) (zE G W (fVar i)) := peImp h fun σ H Q q => by
  obtain ⟨F, ρ, δ, μ, r, w, s, e, p⟩ := q
  unfold fVar at e
  split at e
  · rename_i y hy
    cases e
    obtain ⟨v, hv, rv⟩ := s.get hy
    exact ⟨v, hv, p.ok w rv⟩
  · cases e
theorem zC {v : V} {d : D} (hd : ∀ F, Rp G F v d) {σ : L2.St} {H : Hp} {Q : VK} (q : zE G W (fC d) σ H Q) : tC v σ H Q := by
  obtain ⟨F, ρ, δ, μ, r, w, s, e, p⟩ := q
  cases e
  exact p.ok w (.d (hd F))
theorem z_int {i : Int} {j} : PE X (.Constant (.int i) j pos) (zE G W (fC (.int i))) := peImp pe_int fun _ _ _ q => zC (fun _ => .int i) q
theorem z_bl {i : Bool} {j} : PE X (.Constant (.bool i) j pos) (zE G W (fC (.bl i))) := peImp pe_bl fun _ _ _ q => zC (fun _ => .bl i) q
theorem z_non {j} : PE X (.Constant .none j pos) (zE G W (fC .non)) := peImp pe_non fun _ _ _ q => zC (fun _ => .non) q
theorem z_str {x : Str} {j} (s : List Nat) (h : x.cps.toList = s) : PE X (.Constant (.str x) j pos) (zE G W (fC (.str s))) := peImp pe_str fun _ _ _ q => zC (fun _ => by rw [← h]; exact .str x) q

/-- a two-place operation is as o says -/
def SOp2 (G : Gx) (W : WX) (r : R2) (o : Op2) : Prop := ∀ (F : Hp) (ρ : List Addr) (μ : Mu) (H : Hp) (σ : L2.St) (x y : V) (a b : Sv) (rr : Except Exn Sv × Mu) (Q : VK),
  Wf G F ρ μ H → Rs G F ρ x a → Rs G F ρ y b → o a b μ = some rr → Post G W σ F ρ (Rs G) Q rr → r x y H Q
theorem zop2 {r : R2} {o : Op2} (so : SOp2 G W r o) {σ : L2.St} {H : Hp} {Q : VK} (q : zE G W (fOp2 o fa fb) σ H Q) : tOp r (zE G W fa) (zE G W fb) σ H Q := by
  obtain ⟨F, ρ, δ, μ, rr, w, s, e, p⟩ := q
  refine zstep w s e p fun sa μ1 x F1 ρ1 H1 g1 w1 s1 rx e1 p1 => ?_
  refine zstep w1 s1 e1 p1 fun sb μ2 y F2 ρ2 H2 g2 w2 s2 ry e2 p2 => ?_
  exact so F2 ρ2 μ2 H2 σ x y sa sb rr Q w2 (rx.mono g2) ry e2 p2
theorem z_bin {op : Operator} {r : R2} {o : Op2} (ho : OpR X (binaryOp op) r) (so : SOp2 G W r o) (ha : PE X a (zE G W fa)) (hb : PE X b (zE G W fb)) : PE X (.BinOp a op b pos) (zE G W (fOp2 o fa fb)) :=
  peImp (pe_op ho ha hb) fun _ _ _ q => zop2 so q
theorem z_cmp {op : CmpOp} {r : R2} {o : Op2} (ho : OpR X (compareOp op) r) (so : SOp2 G W r o) (ha : PE X a (zE G W fa)) (hb : PE X b (zE G W fb)) (hm : behindInMarks op b = false) : PE X (.Compare a [op] [b] pos) (zE G W (fOp2 o fa fb)) :=
  peImp (pe_cmpR ho ha hb hm) fun _ _ _ q => zop2 so q
theorem zT_of {t : TE} {f : Fz Sv} (hi : ∀ σ H Q, zE G W f σ H Q → t σ H Q) {σ : L2.St} {H : Hp} {Q : Bool → Hp → Prop} (q : zT G W (fT f) σ H Q) : tTest t σ H Q := by
  obtain ⟨F, ρ, δ, μ, rr, w, s, e, p⟩ := q
  refine hi _ _ _ (zstep w s e p fun sa μ1 x F1 ρ1 H1 g1 w1 s1 rx e1 p1 => ?_)
  split at e1
  · cases e1
    cases rx with
    | d rx => cases rx; exact ⟨_, rfl, p1.ok w1 rfl⟩
  · cases e1
theorem zt_cmp {op : CmpOp} {r : R2} {o : Op2} (ho : OpR X (compareOp op) r) (so : SOp2 G W r o) (ha : PE X a (zE G W fa)) (hb : PE X b (zE G W fb)) (hm : behindInMarks op b = false) : PT X (.Compare a [op] [b] pos) (zT G W (fT (fOp2 o fa fb))) :=
  ptImp (pt_cmpR ho ha hb hm) fun _ _ _ q => zT_of (fun _ _ _ q => zop2 so q) q
/-- an expression whose value is a bool, as a test -/
theorem zt_val (h : PE X e (zE G W fa)) (he : ∀ whole, isTrue e X.env whole = (do let v ← whole; standAt e.pos; holding [v] (truthy v)) := by intro _; rfl) : PT X e (zT G W (fT fa)) :=
  ptImp (pt_val h he) fun _ _ _ q => zT_of (fun _ _ _ q => q) q
theorem zw_and1 (ha : PT X a (zT G W ta)) : PW X (.BoolOp .And [a] pos) (zT G W ta) := pw_and1 ha
theorem zw_or1 (ha : PT X a (zT G W ta)) : PW X (.BoolOp .Or [a] pos) (zT G W ta) := pw_or1 ha
theorem zw_and (ha : PT X a (zT G W ta)) (hb : PW X (.BoolOp .And (b :: es) pos) (zT G W tb)) : PW X (.BoolOp .And (a :: b :: es) pos) (zT G W (fAnd ta tb)) := pwImp (pw_and ha hb) fun σ H Q q => by
  obtain ⟨F, ρ, δ, μ, rr, w, s, e, p⟩ := q
  refine zstep w s e p fun sa μ1 x F1 ρ1 H1 g1 w1 s1 rx e1 p1 => ?_
  subst rx
  cases x with
  | true => exact zlast w1 s1 e1 p1
  | false => cases e1; exact p1.ok w1 rfl
theorem zw_or (ha : PT X a (zT G W ta)) (hb : PW X (.BoolOp .Or (b :: es) pos) (zT G W tb)) : PW X (.BoolOp .Or (a :: b :: es) pos) (zT G W (fOr ta tb)) := pwImp (pw_or ha hb) fun σ H Q q => by
  obtain ⟨F, ρ, δ, μ, rr, w, s, e, p⟩ := q
  refine zstep w s e p fun sa μ1 x F1 ρ1 H1 g1 w1 s1 rx e1 p1 => ?_
  subst rx
  cases x with
  | true => cases e1; exact p1.ok w1 rfl
  | false => exact zlast w1 s1 e1 p1
theorem zt_not (ha : PT X a (zT G W ta)) : PT X (.UnaryOp .Not a pos) (zT G W (fNot ta)) := ptImp (pt_not ha) fun σ H Q q => by
  obtain ⟨F, ρ, δ, μ, rr, w, s, e, p⟩ := q
  refine zstep w s e p fun sa μ1 x F1 ρ1 H1 g1 w1 s1 rx e1 p1 => ?_
  subst rx
  cases e1
  exact p1.ok w1 rfl
theorem z_ife (hc : PT X c (zT G W ta)) (ha : PE X a (zE G W fa)) (hb : PE X b (zE G W fb)) : PE X (.IfExp c a b pos) (zE G W (fIf ta fa fb)) := peImp (pe_ifExp hc ha hb) fun σ H Q q => by
  obtain ⟨F, ρ, δ, μ, rr, w, s, e, p⟩ := q
  refine zstep w s e p fun sa μ1 x F1 ρ1 H1 g1 w1 s1 rx e1 p1 => ?_
  subst rx
  cases x with
  | true => exact zlast w1 s1 e1 p1
  | false => exact zlast w1 s1 e1 p1
/-- and, or, not as values (of bools) -/
def fAndV (fa fb : Fz Sv) : Fz Sv := fun δ μ => (fa δ μ).bind fun a μ => match a with
  | .d (.bl true) => fb δ μ
  | .d (.bl false) => some (.ok (.d (.bl false)), μ)
  | _ => none
def fOrV (fa fb : Fz Sv) : Fz Sv := fun δ μ => (fa δ μ).bind fun a μ => match a with
  | .d (.bl true) => some (.ok (.d (.bl true)), μ)
  | .d (.bl false) => fb δ μ
  | _ => none
def fNotV (fa : Fz Sv) : Fz Sv := fun δ μ => (fa δ μ).bind fun a μ => match a with
  | .d (.bl b) => some (.ok (.d (.bl (!b))), μ)
  | _ => none
theorem z_one {op} (h : PE X a (zE G W fa)) : PE X (.BoolOp op [a] pos) (zE G W fa) := pe_one h
theorem z_and (ha : PE X a (zE G W fa)) (hb : PE X (.BoolOp .And (b :: es) pos) (zE G W fb)) : PE X (.BoolOp .And (a :: b :: es) pos) (zE G W (fAndV fa fb)) := peImp (pe_and ha hb) fun σ H Q q => by
  obtain ⟨F, ρ, δ, μ, rr, w, s, e, p⟩ := q
  refine zstep w s e p fun sa μ1 x F1 ρ1 H1 g1 w1 s1 rx e1 p1 => ?_
  split at e1
  · cases rx with | d rx => cases rx; exact ⟨true, rfl, zlast w1 s1 e1 p1⟩
  · cases rx with | d rx => cases rx; cases e1; exact ⟨false, rfl, p1.ok w1 (.d (.bl false))⟩
  · cases e1
theorem z_or (ha : PE X a (zE G W fa)) (hb : PE X (.BoolOp .Or (b :: es) pos) (zE G W fb)) : PE X (.BoolOp .Or (a :: b :: es) pos) (zE G W (fOrV fa fb)) := peImp (pe_or ha hb) fun σ H Q q => by
  obtain ⟨F, ρ, δ, μ, rr, w, s, e, p⟩ := q
  refine zstep w s e p fun sa μ1 x F1 ρ1 H1 g1 w1 s1 rx e1 p1 => ?_
  split at e1
  · cases rx with | d rx => cases rx; cases e1; exact ⟨true, rfl, p1.ok w1 (.d (.bl true))⟩
  · cases rx with | d rx => cases rx; exact ⟨false, rfl, zlast w1 s1 e1 p1⟩
  · cases e1
theorem z_not (ha : PE X a (zE G W fa)) : PE X (.UnaryOp .Not a pos) (zE G W (fNotV fa)) := peImp (pe_not ha) fun σ H Q q => by
  obtain ⟨F, ρ, δ, μ, rr, w, s, e, p⟩ := q
  refine zstep w s e p fun sa μ1 x F1 ρ1 H1 g1 w1 s1 rx e1 p1 => ?_
  split at e1
  · cases rx with | d rx => cases rx; cases e1; exact ⟨_, rfl, p1.ok w1 (.d (.bl _))⟩
  · cases e1
/-- argument lists -/
theorem za_nil : PA X [] (zA G W fNil) := paImp pa_nil fun σ H Q q => by
  obtain ⟨F, ρ, δ, μ, rr, w, s, e, p⟩ := q
  cases e
  exact p.ok w .nil
theorem za_cons (ha : PE X e (zE G W fa)) (hr : PA X es (zA G W fr)) (hs : starEach (e :: es) X.env = (false, eval e X.env) :: starEach es X.env := by rfl) : PA X (e :: es) (zA G W (fCons fa fr)) := paImp (pa_cons ha hr hs) fun σ H Q q => by
  obtain ⟨F, ρ, δ, μ, rr, w, s, e, p⟩ := q
  refine zstep w s e p fun sa μ1 x F1 ρ1 H1 g1 w1 s1 rx e1 p1 => ?_
  refine zstep w1 s1 e1 p1 fun sb μ2 y F2 ρ2 H2 g2 w2 s2 ry e2 p2 => ?_
  cases e2
  exact p2.ok w2 (.cons (rx.mono g2) ry)
end
end Z
namespace Z
open PySem PySem.Spec PyProof.Rows L2
section
variable {G : Gx} {F : Hp} {ρ : List Addr} {μ : Mu} {H : Hp}
theorem CellOk.mono {F' : Hp} {ρ' : List Addr} {a : Addr} {c : Cell} (g : Gr F F' ρ ρ') (hF : F' a = F a) (h : CellOk G F ρ H a c) {H' : Hp} (hH : H' a = H a) : CellOk G F' ρ' H' a c := by
  cases c with
  | lst xs => obtain ⟨h0, vs, h1, h2⟩ := h; exact ⟨by rw [hF]; exact h0, vs, by rw [hH]; exact h1, h2.mono g⟩
  | dct xs => obtain ⟨h0, vs, h1, h2⟩ := h; exact ⟨by rw [hF]; exact h0, vs, by rw [hH]; exact h1, h2.mono g⟩
  | ins c xs => obtain ⟨h0, dx, vs, h1, h2⟩ := h; exact ⟨by rw [hF]; exact h0, dx, vs, by rw [hH]; exact h1, h2.mono g⟩
  | fz => trivial
  | dtt ks => obtain ⟨h0, vs, h1, h2⟩ := h; exact ⟨by rw [hF]; exact h0, vs, by rw [hH]; exact h1, h2⟩
theorem Wf.out (w : Wf G F ρ μ H) {p : Addr} (h : H p = none) : p ∉ ρ := fun hp => w.dom p hp h
/-- a new tree's object -/
theorem Wf.newD (w : Wf G F ρ μ H) {p : Addr} (h : H p = none) (o : HO) : Wf G (upd F p o) ρ μ (upd H p o) ∧ Gr F (upd F p o) ρ ρ := by
  have hF : F p = none := w.ex.none h
  have g : Gr F (upd F p o) ρ ρ := ⟨Ex.new hF, [], by simp⟩
  refine ⟨⟨fun a u e => ?_, w.len, w.nd, fun n a c h1 h2 => ?_, fun a ha => ?_⟩, g⟩
  · by_cases hp : a = p
    · subst hp; rw [upd_same] at e ⊢; exact e
    · rw [upd_ne hp] at e ⊢; exact w.ex a u e
  · have ne : a ≠ p := fun z => w.out h (by rw [← z]; exact List.mem_of_getElem? h1)
    exact (w.cell n a c h1 h2).mono g (upd_ne ne) (upd_ne ne)
  · have ne : a ≠ p := fun z => w.out h (by rw [← z]; exact ha)
    rw [upd_ne ne]; exact w.dom a ha
/-- a new cell -/
theorem Wf.newC (w : Wf G F ρ μ H) {p : Addr} (h : H p = none) {o : HO} {c : Cell} (hc : CellOk G F (ρ ++ [p]) (upd H p o) p c) : Wf G F (ρ ++ [p]) (μ ++ [c]) (upd H p o) ∧ Gr F F ρ (ρ ++ [p]) := by
  have g : Gr F F ρ (ρ ++ [p]) := ⟨Ex.refl F, [p], rfl⟩
  refine ⟨⟨w.ex.trans (Ex.new h), by simp [w.len], ?_, fun n a c' h1 h2 => ?_, fun a ha => ?_⟩, g⟩
  · rw [List.nodup_append]
    refine ⟨w.nd, by simp, fun a ha b hb => ?_⟩
    have : b = p := by simpa using hb
    subst this
    exact fun z => w.out h (by rw [← z]; exact ha)
  · by_cases hn : n < ρ.length
    · rw [List.getElem?_append_left hn] at h1
      rw [List.getElem?_append_left (by rw [← w.len]; exact hn)] at h2
      have ne : a ≠ p := fun z => w.out h (by rw [← z]; exact List.mem_of_getElem? h1)
      exact (w.cell n a c' h1 h2).mono g rfl (upd_ne ne)
    · have hn' : n = ρ.length := by
        have := (List.getElem?_eq_some_iff.mp h1).1
        simp at this; omega
      subst hn'
      have e1 : a = p := by simpa using h1.symm
      have e2 : c' = c := by rw [w.len] at h2; simpa using h2.symm
      subst e1; subst e2
      exact hc
  · rcases List.mem_append.mp ha with ha | ha
    · have ne : a ≠ p := fun z => w.out h (by rw [← z]; exact ha)
      rw [upd_ne ne]; exact w.dom a ha
    · have : a = p := by simpa using ha
      subst this
      rw [upd_same]; simp
/-- a cell is changed -/
theorem Wf.setC (w : Wf G F ρ μ H) {n : Nat} {a : Addr} (ha : ρ[n]? = some a) (hF : F a = none) {o : HO} {c : Cell} (hc : CellOk G F ρ (upd H a o) a c) : Wf G F ρ (μ.set n c) (upd H a o) := by
  refine ⟨fun b u e => ?_, by simp [w.len], w.nd, fun m b c' h1 h2 => ?_, fun b hb => ?_⟩
  · have ne : b ≠ a := fun z => by rw [z, hF] at e; cases e
    rw [upd_ne ne]; exact w.ex b u e
  · by_cases hm : n = m
    · subst hm
      rw [ha] at h1; cases h1
      have hn : n < μ.length := by rw [← w.len]; exact (List.getElem?_eq_some_iff.mp ha).1
      rw [List.getElem?_set_self hn] at h2; cases h2
      exact hc
    · rw [List.getElem?_set_ne hm] at h2
      have ne : b ≠ a := fun z => by
        subst z
        have h3 := (List.getElem?_inj (List.getElem?_eq_some_iff.mp ha).1 w.nd).mp (ha.trans h1.symm)
        exact hm h3
      exact (w.cell m b c' h1 h2).mono (Gr.refl F ρ) rfl (upd_ne ne)
  · by_cases z : b = a
    · subst z; rw [upd_same]; simp
    · rw [upd_ne z]; exact w.dom b hb
/-- a cell becomes a tree -/
theorem Wf.frz (w : Wf G F ρ μ H) {n : Nat} {a : Addr} (ha : ρ[n]? = some a) (hF : F a = none) {o : HO} (ho : H a = some o) : Wf G (upd F a o) ρ (μ.set n .fz) H ∧ Gr F (upd F a o) ρ ρ := by
  have g : Gr F (upd F a o) ρ ρ := ⟨Ex.new hF, [], by simp⟩
  refine ⟨⟨fun b u e => ?_, by simp [w.len], w.nd, fun m b c' h1 h2 => ?_, w.dom⟩, g⟩
  · by_cases z : b = a
    · subst z; rw [upd_same] at e; rw [← e]; exact ho
    · rw [upd_ne z] at e; exact w.ex b u e
  · by_cases hm : n = m
    · subst hm
      have hn : n < μ.length := by rw [← w.len]; exact (List.getElem?_eq_some_iff.mp ha).1
      rw [List.getElem?_set_self hn] at h2; cases h2
      trivial
    · rw [List.getElem?_set_ne hm] at h2
      have ne : b ≠ a := fun z => by
        subst z
        exact hm ((List.getElem?_inj (List.getElem?_eq_some_iff.mp ha).1 w.nd).mp (ha.trans h1.symm))
      exact (w.cell m b c' h1 h2).mono g (upd_ne ne) rfl
end
/-! ### what is not held any more goes -/
def flatS : Sv → Bool
  | .d _ => true
  | .c _ => false
def Cell.flat : Cell → Bool
  | .lst xs => xs.all flatS
  | .dct kvs => kvs.all fun p => flatS p.2
  | .ins _ fs => fs.all fun p => flatS p.2
  | .fz => true
  | .dtt _ => true
def GcOk (μ0 μ : Mu) : Prop := μ0.length ≤ μ.length ∧ ∀ (i : Nat) (c : Cell), i < μ0.length → μ[i]? = some c → μ0[i]? = some c ∨ c.flat = true
open Classical in
noncomputable def gcM (μ0 μ : Mu) : Mu := if GcOk μ0 μ then μ.take μ0.length else μ
theorem gc_app (μ t : Mu) : gcM μ (μ ++ t) = μ := by
  have h : GcOk μ (μ ++ t) := ⟨by simp, fun i c hi hc => .inl (by rw [List.getElem?_append_left hi] at hc; exact hc)⟩
  unfold gcM
  rw [if_pos h]
  simp
theorem gc_self (μ : Mu) : gcM μ μ = μ := by
  have := gc_app μ []
  simpa using this
theorem gc_set (μ t : Mu) (k : Nat) (c : Cell) (hc : c.flat = true) : gcM μ (μ.set k c ++ t) = μ.set k c := by
  have h : GcOk μ (μ.set k c ++ t) := ⟨by simp, fun i c' hi hc' => by
    rw [List.getElem?_append_left (by simpa using hi)] at hc'
    by_cases hk : k = i
    · subst hk
      rw [List.getElem?_set_self hi] at hc'
      cases hc'
      exact .inr hc
    · rw [List.getElem?_set_ne hk] at hc'
      exact .inl hc'⟩
  unfold gcM
  rw [if_pos h]
  have : μ.length = (μ.set k c).length := by simp
  rw [this, List.take_left']
  rfl
theorem gc_set0 (μ : Mu) (k : Nat) (c : Cell) (hc : c.flat = true) : gcM μ (μ.set k c) = μ.set k c := by
  have := gc_set μ [] k c hc
  simpa using this
section
variable {G : Gx} {F F0 : Hp} {ρ ρ0 : List Addr} {μ μ0 : Mu} {H H0 : Hp}
theorem RsL.flat : ∀ {vs : List V} {xs : List Sv} {ρ' : List Addr}, xs.all flatS = true → RsL G F ρ vs xs → RsL G F ρ' vs xs
  | _, _, _, _, .nil => .nil
  | _, x :: xs, ρ', h, .cons r t => by
    simp only [List.all_cons, Bool.and_eq_true] at h
    cases r with
    | d r => exact .cons (.d r) (RsL.flat h.2 t)
    | c r => exact absurd h.1 (by simp [flatS])
theorem RsK.flat : ∀ {vs : List (Key × V)} {xs : List (Key × Sv)} {ρ' : List Addr}, (xs.all fun p => flatS p.2) = true → RsK G F ρ vs xs → RsK G F ρ' vs xs
  | _, _, _, _, .nil => .nil
  | _, (k, x) :: xs, ρ', h, .cons r t => by
    simp only [List.all_cons, Bool.and_eq_true] at h
    cases r with
    | d r => exact .cons (.d r) (RsK.flat h.2 t)
    | c r => exact absurd h.1 (by simp [flatS])
theorem RsF.flat : ∀ {vs : List (Str × V)} {xs : List (String × Sv)} {ρ' : List Addr}, (xs.all fun p => flatS p.2) = true → RsF G F ρ vs xs → RsF G F ρ' vs xs
  | _, _, _, _, .nil => .nil
  | _, (k, x) :: xs, ρ', h, .cons r t => by
    simp only [List.all_cons, Bool.and_eq_true] at h
    cases r with
    | d r => exact .cons (.d r) (RsF.flat h.2 t)
    | c r => exact absurd h.1 (by simp [flatS])
theorem Rs.low {v : V} {x : Sv} (g : Gr F0 F ρ0 ρ) : Rs G F0 ρ0 v x → ∃ y, Rs G F ρ0 v y ∧ y = x
  | .d r => ⟨_, .d (r.mono g.f), rfl⟩
  | .c h => ⟨_, .c h, rfl⟩
/-- the same cell, told by the elder addresses: its items stood there already -/
theorem RsL.back : ∀ {vs vs' : List V} {xs : List Sv}, Gr F0 F ρ0 ρ → RsL G F0 ρ0 vs' xs → RsL G F ρ vs xs → RsL G F ρ0 vs xs
  | _, _, _, _, .nil, .nil => .nil
  | _, _, _, g, .cons r0 t0, .cons r t => by
    refine .cons ?_ (RsL.back g t0 t)
    cases r with
    | d r => exact .d r
    | c h =>
      cases r0 with
      | c h0 => rw [g.at h0] at h; cases h; exact .c h0
theorem RsK.back : ∀ {vs vs' : List (Key × V)} {xs : List (Key × Sv)}, Gr F0 F ρ0 ρ → RsK G F0 ρ0 vs' xs → RsK G F ρ vs xs → RsK G F ρ0 vs xs
  | _, _, _, _, .nil, .nil => .nil
  | _, _, _, g, .cons r0 t0, .cons r t => by
    refine .cons ?_ (RsK.back g t0 t)
    cases r with
    | d r => exact .d r
    | c h =>
      cases r0 with
      | c h0 => rw [g.at h0] at h; cases h; exact .c h0
theorem RsF.back : ∀ {vs vs' : List (Str × V)} {xs : List (String × Sv)}, Gr F0 F ρ0 ρ → RsF G F0 ρ0 vs' xs → RsF G F ρ vs xs → RsF G F ρ0 vs xs
  | _, _, _, _, .nil, .nil => .nil
  | _, _, _, g, .cons r0 t0, .cons r t => by
    refine .cons ?_ (RsF.back g t0 t)
    cases r with
    | d r => exact .d r
    | c h =>
      cases r0 with
      | c h0 => rw [g.at h0] at h; cases h; exact .c h0
/-- what was laid since ρ0 is forgotten -/
theorem Wf.gc (w0 : Wf G F0 ρ0 μ0 H0) (g : Gr F0 F ρ0 ρ) (w : Wf G F ρ μ H) : ∃ ρ', (ρ' = ρ ∨ ρ' = ρ0) ∧ Gr F0 F ρ0 ρ' ∧ Wf G F ρ' (gcM μ0 μ) H := by
  unfold gcM
  by_cases h : GcOk μ0 μ
  · rw [if_pos h]
    obtain ⟨t, ht⟩ := g.r
    refine ⟨ρ0, .inr rfl, ⟨g.f, [], by simp⟩, ⟨w.ex, ?_, w0.nd, fun n a c h1 h2 => ?_, fun a ha => w.dom a (by rw [ht]; exact List.mem_append_left _ ha)⟩⟩
    · rw [List.length_take, w0.len]; have := h.1; omega
    · have hn : n < μ0.length := by rw [← w0.len]; exact (List.getElem?_eq_some_iff.mp h1).1
      rw [List.getElem?_take_of_lt hn] at h2
      have ok := w.cell n a c (g.at h1) h2
      rcases h.2 n c hn h2 with q | q
      · have ok0 := w0.cell n a c h1 q
        cases c with
        | lst xs => obtain ⟨z, vs, e, r⟩ := ok; obtain ⟨_, vs', _, r'⟩ := ok0; exact ⟨z, vs, e, RsL.back g r' r⟩
        | dct xs => obtain ⟨z, vs, e, r⟩ := ok; obtain ⟨_, vs', _, r'⟩ := ok0; exact ⟨z, vs, e, RsK.back g r' r⟩
        | ins c xs => obtain ⟨z, dx, vs, e, r⟩ := ok; obtain ⟨_, _, vs', _, r'⟩ := ok0; exact ⟨z, dx, vs, e, RsF.back g r' r⟩
        | fz => trivial
        | dtt ks => exact ok
      · cases c with
        | lst xs => obtain ⟨z, vs, e, r⟩ := ok; exact ⟨z, vs, e, r.flat q⟩
        | dct xs => obtain ⟨z, vs, e, r⟩ := ok; exact ⟨z, vs, e, r.flat q⟩
        | ins c xs => obtain ⟨z, dx, vs, e, r⟩ := ok; exact ⟨z, dx, vs, e, r.flat q⟩
        | fz => trivial
        | dtt ks => exact ok
  · rw [if_neg h]
    exact ⟨ρ, .inl rfl, g, w⟩
end
end Z
namespace Z
open PySem PySem.Spec PyProof.Rows L2

/-! ### statements -/
inductive Fl where
  | nx | bk | ct | rt (v : Sv) | ex (x : Exn)
abbrev Sr := Option (Fl × Dl × Mu)
abbrev Sz := Dl → Mu → Sr
def eS {α : Type} (r : Rz α) (δ : Dl) (k : α → Mu → Sr) : Sr := match r with
  | none => none
  | some (.error x, μ) => some (.ex x, δ, μ)
  | some (.ok a, μ) => k a μ
@[simp] theorem eS_ok {α : Type} (a : α) (μ : Mu) (δ : Dl) (k : α → Mu → Sr) : eS (some (.ok a, μ)) δ k = k a μ := rfl
@[simp] theorem eS_err {α : Type} (x : Exn) (μ : Mu) (δ : Dl) (k : α → Mu → Sr) : eS (some (.error x, μ)) δ k = some (.ex x, δ, μ) := rfl
@[simp] theorem eS_none {α : Type} (δ : Dl) (k : α → Mu → Sr) : eS none δ k = none := rfl
def sThen (r : Sr) (T : Sz) : Sr := match r with
  | some (.nx, δ, μ) => T δ μ
  | r => r
@[simp] theorem sThen_nx (δ : Dl) (μ : Mu) (T : Sz) : sThen (some (.nx, δ, μ)) T = T δ μ := rfl
@[simp] theorem sThen_bk (δ : Dl) (μ : Mu) (T : Sz) : sThen (some (.bk, δ, μ)) T = some (.bk, δ, μ) := rfl
@[simp] theorem sThen_ct (δ : Dl) (μ : Mu) (T : Sz) : sThen (some (.ct, δ, μ)) T = some (.ct, δ, μ) := rfl
@[simp] theorem sThen_rt (v : Sv) (δ : Dl) (μ : Mu) (T : Sz) : sThen (some (.rt v, δ, μ)) T = some (.rt v, δ, μ) := rfl
@[simp] theorem sThen_ex (x : Exn) (δ : Dl) (μ : Mu) (T : Sz) : sThen (some (.ex x, δ, μ)) T = some (.ex x, δ, μ) := rfl
@[simp] theorem sThen_none (T : Sz) : sThen none T = none := rfl

def PostS (G : Gx) (W : WX) (F : Hp) (ρ : List Addr) (D : Ends) : Fl × Dl × Mu → Prop
  | (.nx, δ, μ) => ∀ σ' F' ρ' H', Gr F F' ρ ρ' → Wf G F' ρ' μ H' → Sl G F' ρ' σ' δ → D.nx σ' H'
  | (.bk, δ, μ) => ∀ σ' F' ρ' H', Gr F F' ρ ρ' → Wf G F' ρ' μ H' → Sl G F' ρ' σ' δ → D.bk σ' H'
  | (.ct, δ, μ) => ∀ σ' F' ρ' H', Gr F F' ρ ρ' → Wf G F' ρ' μ H' → Sl G F' ρ' σ' δ → D.ct σ' H'
  | (.rt v, _, μ) => ∀ a F' ρ' H', Gr F F' ρ ρ' → Wf G F' ρ' μ H' → Rs G F' ρ' a v → D.rt a H'
  | (.ex x, δ, μ) => ∀ cls d σ' F' ρ' H', Gr F F' ρ ρ' → Wf G F' ρ' μ H' → Sl G F' ρ' σ' δ → XRel G F' cls d x → W cls d σ' H'
def zS (G : Gx) (W : WX) (S : Sz) : TS := fun D σ H => ∃ F ρ δ μ r, Wf G F ρ μ H ∧ Sl G F ρ σ δ ∧ S δ μ = some r ∧ PostS G W F ρ D r
section
variable {G : Gx} {W : WX} {σ : L2.St} {F F1 : Hp} {ρ ρ1 : List Addr} {H : Hp} {δ : Dl} {μ : Mu} {α α' β' : Type} {D : Ends}
theorem PostS.mono (g : Gr F F1 ρ ρ1) : ∀ {r : Fl × Dl × Mu}, PostS G W F ρ D r → PostS G W F1 ρ1 D r
  | (.nx, _, _), p => fun σ' F' ρ' H' g' w s => p σ' F' ρ' H' (g.trans g') w s
  | (.bk, _, _), p => fun σ' F' ρ' H' g' w s => p σ' F' ρ' H' (g.trans g') w s
  | (.ct, _, _), p => fun σ' F' ρ' H' g' w s => p σ' F' ρ' H' (g.trans g') w s
  | (.rt _, _, _), p => fun a F' ρ' H' g' w s => p a F' ρ' H' (g.trans g') w s
  | (.ex _, _, _), p => fun c d σ' F' ρ' H' g' w s => p c d σ' F' ρ' H' (g.trans g') w s
/-- an expression within a statement -/
theorem zstepS {f : Fz β'} {k : β' → Mu → Sr} {r : Fl × Dl × Mu} {rel : Hp → List Addr → α' → β' → Prop} {Q : α' → Hp → Prop} (w : Wf G F ρ μ H) (s : Sl G F ρ σ δ)
    (e : eS (f δ μ) δ k = some r) (p : PostS G W F ρ D r)
    (cont : ∀ b μ1 a F1 ρ1 H1, Gr F F1 ρ ρ1 → Wf G F1 ρ1 μ1 H1 → Sl G F1 ρ1 σ δ → rel F1 ρ1 a b → k b μ1 = some r → PostS G W F1 ρ1 D r → Q a H1) : zG G W rel f σ H Q := by
  cases h : f δ μ with
  | none => rw [h] at e; cases e
  | some q =>
    obtain ⟨q, μ1⟩ := q
    rw [h] at e
    refine ⟨F, ρ, δ, μ, _, w, s, h, ?_⟩
    cases q with
    | error x =>
      have e' : (Fl.ex x, δ, μ1) = r := Option.some.inj e
      subst e'
      exact fun cls d F' ρ' H' g w' x => p cls d σ F' ρ' H' g w' (s.mono g) x
    | ok b => exact fun a F' ρ' H' g w' rr => cont b μ1 a F' ρ' H' g w' (s.mono g) rr e (p.mono g)
theorem PostS.nx {r : Fl × Dl × Mu} (p : PostS G W F ρ D r) (e : r = (.nx, δ, μ)) (w : Wf G F ρ μ H) (s : Sl G F ρ σ δ) : D.nx σ H := by
  subst e; exact p σ F ρ H (Gr.refl F ρ) w s
end

def sNil : Sz := fun δ μ => some (.nx, δ, μ)
def sSeq (S T : Sz) : Sz := fun δ μ => sThen (S δ μ) T
def sSet (i : Nat) (f : Fz Sv) : Sz := fun δ μ => eS (f δ μ) δ fun a μ => some (.nx, δ.set i (some a), μ)
def sEx (f : Fz Sv) : Sz := fun δ μ => eS (f δ μ) δ fun _ μ => some (.nx, δ, μ)
def sRet (f : Fz Sv) : Sz := fun δ μ => eS (f δ μ) δ fun a μ => some (.rt a, δ, μ)
def sRetN : Sz := fun δ μ => some (.rt (.d .non), δ, μ)
def sIf (c : Fz Bool) (S T : Sz) : Sz := fun δ μ => eS (c δ μ) δ fun b μ => if b = true then S δ μ else T δ μ
def sBrk : Sz := fun δ μ => some (.bk, δ, μ)
def sCnt : Sz := fun δ μ => some (.ct, δ, μ)

theorem pssImp {X : Cx} {st : List Stmt} {t t' : TS} (h : PSs X st t) (i : ∀ D σ H, t' D σ H → t D σ H) : PSs X st t' := ⟨fun pins s σ H D I q => h.run pins s σ H D I (i _ _ _ q)⟩
theorem psImp {X : Cx} {st : Stmt} {t t' : TS} (h : PS X st t) (i : ∀ D σ H, t' D σ H → t D σ H) : PS X st t' := ⟨fun pins s σ H D I q => h.run pins s σ H D I (i _ _ _ q)⟩

section
variable {G : Gx} {X : Cx} {W : WX} {a b c e : Expr} {es : List Expr} {st : Stmt} {rest sa sb : List Stmt} {fa fb : Fz Sv} {fr : Fz (List Sv)} {pos : Pos} {ta tb : Fz Bool} {S T : Sz}
theorem zs_nil : PSs X [] (zS G W sNil) := pssImp pss_nil fun D σ H q => by
  obtain ⟨F, ρ, δ, μ, r, w, s, e, p⟩ := q
  cases e
  exact p.nx rfl w s
theorem zs_cons (h1 : PS X st (zS G W S)) (h2 : PSs X rest (zS G W T)) : PSs X (st :: rest) (zS G W (sSeq S T)) := pssImp (pss_cons h1 h2) fun D σ H q => by
  obtain ⟨F, ρ, δ, μ, r, w, s, e, p⟩ := q
  unfold sSeq at e
  cases h : S δ μ with
  | none => rw [h] at e; cases e
  | some q =>
    obtain ⟨f, δ1, μ1⟩ := q
    rw [h] at e
    refine ⟨F, ρ, δ, μ, _, w, s, h, ?_⟩
    cases f with
    | nx => exact fun σ' F' ρ' H' g w' s' => ⟨F', ρ', δ1, μ1, r, w', s', e, p.mono g⟩
    | bk => cases e; exact p
    | ct => cases e; exact p
    | rt v => cases e; exact p
    | ex x => cases e; exact p
theorem zs_one (h1 : PS X st (zS G W S)) : PSs X [st] (zS G W S) := pss_one h1
theorem zs_set {i : Nat} {x : Str} {p2 : Pos} (hg : PG X (.Name x p2) (gName i)) (ha : PE X e (zE G W fa)) (hs : swapsWithSole [.Name x p2] e pos.line X.env = pure false := by rfl) (hw : swappedStores [.Name x p2] e X.env = pure none := by rfl) :
    PS X (.Assign [.Name x p2] e pos) (zS G W (sSet i fa)) := psImp (ps_asg ha hg hs hw) fun D σ H q => by
  obtain ⟨F, ρ, δ, μ, r, w, s, e, p⟩ := q
  refine zstepS w s e p fun sa μ1 x F1 ρ1 H1 g1 w1 s1 rx e1 p1 => ?_
  cases e1
  exact p1.nx rfl w1 (s1.set rx i)
theorem zs_ex (ha : PE X e (zE G W fa)) (hs : swapsWith e none pos.line X.env = pure false := by rfl) : PS X (.Expr e pos) (zS G W (sEx fa)) := psImp (ps_expr ha hs) fun D σ H q => by
  obtain ⟨F, ρ, δ, μ, r, w, s, e, p⟩ := q
  refine zstepS w s e p fun sa μ1 x F1 ρ1 H1 g1 w1 s1 rx e1 p1 => ?_
  cases e1
  exact p1.nx rfl w1 s1
theorem zs_ret (ha : PE X e (zE G W fa)) : PS X (.Return (some e) pos) (zS G W (sRet fa)) := psImp (ps_ret ha) fun D σ H q => by
  obtain ⟨F, ρ, δ, μ, r, w, s, e, p⟩ := q
  refine zstepS w s e p fun sa μ1 x F1 ρ1 H1 g1 w1 s1 rx e1 p1 => ?_
  cases e1
  exact p1 x F1 ρ1 H1 (Gr.refl F1 ρ1) w1 rx
theorem zs_retN : PS X (.Return none pos) (zS G W sRetN) := psImp ps_retN fun D σ H q => by
  obtain ⟨F, ρ, δ, μ, r, w, s, e, p⟩ := q
  cases e
  exact p _ F ρ H (Gr.refl F ρ) w (.d .non)
theorem zs_if (hc : PT X c (zT G W ta)) (ha : PSs X sa (zS G W S)) (hb : PSs X sb (zS G W T)) : PS X (.If c sa sb pos) (zS G W (sIf ta S T)) := psImp (ps_if hc ha hb) fun D σ H q => by
  obtain ⟨F, ρ, δ, μ, r, w, s, e, p⟩ := q
  refine zstepS w s e p fun sa μ1 x F1 ρ1 H1 g1 w1 s1 rx e1 p1 => ?_
  subst rx
  cases x with
  | true => exact ⟨F1, ρ1, δ, μ1, r, w1, s1, e1, p1⟩
  | false => exact ⟨F1, ρ1, δ, μ1, r, w1, s1, e1, p1⟩
theorem zs_pass : PS X (.Pass pos) (zS G W sNil) := psImp ps_pass fun D σ H q => by
  obtain ⟨F, ρ, δ, μ, r, w, s, e, p⟩ := q
  cases e
  exact p.nx rfl w s
theorem zs_brk : PS X (.Break pos) (zS G W sBrk) := psImp ps_break fun D σ H q => by
  obtain ⟨F, ρ, δ, μ, r, w, s, e, p⟩ := q
  cases e
  exact p σ F ρ H (Gr.refl F ρ) w s
theorem zs_cnt : PS X (.Continue pos) (zS G W sCnt) := psImp ps_continue fun D σ H q => by
  obtain ⟨F, ρ, δ, μ, r, w, s, e, p⟩ := q
  cases e
  exact p σ F ρ H (Gr.refl F ρ) w s
end

/-! ### defs -/
abbrev Fn := List Sv → Mu → Rz Sv
def spF (G : Gx) (fn : Fn) : Sp := fun vs H Q E => ∃ F ρ μ svs r, Wf G F ρ μ H ∧ RsL G F ρ vs svs ∧ fn svs μ = some r ∧ Post G (fun c d _ H => E c d H) [] F ρ (Rs G) Q r
/-- a body of nl slots, run -/
noncomputable def runB (n nl : Nat) (S : Sz) : Fn := fun svs μ => if svs.length = n then (match S (svs.map some ++ List.replicate (nl - svs.length) none) μ with
  | some (.rt (.d x), _, μ') => some (.ok (.d x), gcM μ μ')
  | some (.rt (.c m), _, μ') => some (.ok (.c m), μ')
  | some (.nx, _, μ') => some (.ok (.d .non), gcM μ μ')
  | some (.ex x, _, μ') => some (.error x, gcM μ μ')
  | _ => none) else none
theorem Sl.start {G : Gx} {F : Hp} {ρ : List Addr} : ∀ {vs : List V} {svs : List Sv} (m : Nat), RsL G F ρ vs svs → Sl G F ρ (vs.map some ++ List.replicate m none) (svs.map some ++ List.replicate m none)
  | _, _, m, .nil => by
    induction m with
    | zero => exact .nil
    | succ m ih => rw [List.replicate_succ, List.replicate_succ]; exact .un ih
  | _, _, m, .cons r t => .cons r (Sl.start m t)
section
variable {P : Program} {w : World} {mg : Str → Option Value} {base : Heap} {G : Gx}
/-- around a body: what a callee may let out is taken -/
def Pz (X : Cx) (W : WX) : Prop := ∀ σ, PassesAt (L2.CX X.prog X.w) X σ (fun c d H => W c d σ H)
theorem pz_takes {X : Cx} {W : WX} (tk : Takes X W) : Pz X W := fun σ => passAt tk σ
theorem pz_never {X : Cx} : Pz X (fun _ _ _ _ => False) := fun σ pins H s e s' I h => by
  obtain ⟨_, _, _, _, _, _, _, _, _, _, _, _, z⟩ := h
  exact z.elim
/-- THE RULE: a def of the text keeps the promise of its body's function -/
theorem ok_def {x qual : Str} {st : Stmt} {f : Addr} {fd : FuncData} {N ps : List Str} {k : Nat} {S : Sz} (Fu : Fun G.K x qual st f fd) (Sc : FnScope N ps (defScope st))
    (body : ∀ (cdv : Value) (A : Around) (outer : List Env) (s : Shared) (H : Hp) (E : XK), Room k (A.deeper (envOfC qual (defScope st) s.heap.objs.size f cdv)) →
      PSs (cxOf (L2.CX P w) P w G.K mg base N qual (defScope st) f cdv A outer s H E) (defBody st) (zS G (fun c d _ H => E c d H) S)) :
    FnOk P w G.K mg base (L2.CX P w) (k + 1) f fd ps (spF G (runB ps.length N.length S)) := by
  refine Fu.okX Sc (fun vs H Q E h => by
    obtain ⟨F, ρ, μ, svs, r, wf, rs, e, p⟩ := h
    unfold runB at e
    split at e
    · rename_i q; rw [rs.len]; exact q
    · cases e) (fun cdv A outer s H vs Q E hr h => ?_)
  obtain ⟨F, ρ, μ, svs, r, wf, rs, e, p⟩ := h
  refine ⟨_, body cdv A outer s H E hr, ?_⟩
  unfold runB at e
  split at e
  case isFalse => cases e
  have sl := Sl.start (N.length - svs.length) rs
  cases h : S (svs.map some ++ List.replicate (N.length - svs.length) none) μ with
  | none => rw [h] at e; cases e
  | some q =>
    obtain ⟨fl, δ1, μ1⟩ := q
    rw [h] at e
    refine ⟨F, ρ, _, μ, _, wf, (by unfold L2.start; rw [rs.len]; exact sl), h, ?_⟩
    cases fl with
    | nx =>
      cases e
      intro σ' F' ρ' H' g w' s'
      obtain ⟨ρ2, _, g2, w2⟩ := wf.gc g w'
      exact p .non F' ρ2 H' g2 w2 (.d .non)
    | bk => cases e
    | ct => cases e
    | rt v =>
      cases v with
      | d x =>
        cases e
        intro a F' ρ' H' g w' s'
        obtain ⟨ρ2, _, g2, w2⟩ := wf.gc g w'
        cases s' with
        | d s' => exact p a F' ρ2 H' g2 w2 (.d s')
      | c m => cases e; exact fun a F' ρ' H' g w' s' => p a F' ρ' H' g w' s'
    | ex x =>
      cases e
      intro c d σ' F' ρ' H' g w' s' xr
      obtain ⟨ρ2, _, g2, w2⟩ := wf.gc g w'
      exact p c d F' ρ2 H' g2 w2 xr
end

/-! ### calls -/
def fCall (fn : Fn) (ds : List D) (fa : Fz (List Sv)) : Fz Sv := fun δ μ => (fa δ μ).bind fun as μ => fn (as ++ ds.map Sv.d) μ
section
variable {G : Gx} {X : Cx} {W : WX} {k : Nat} {f C : Addr} {fd : FuncData} {ps : List Str} {fn : Fn} {dvs : List V} {dds : List D} {ds : List Value} {x m : Str} {p pos apos : Pos} {e o : Expr} {es : List Expr} {fa fo : Fz Sv} {fr : Fz (List Sv)}
theorem runz {pins : List (Addr × Obj)} {σ : L2.St} {H : Hp} {s : Shared} {Q : VK} {us : List Value} {vs : List V} (Fo : FnOk X.prog X.w X.K X.mg X.base (L2.CX X.prog X.w) k f fd ps (spF G fn)) (hr : Room k X.A) (hb : Binds X.K fd ps ds) (hd : Vals dvs ds)
    (px : Pz X W) (I : Inv X pins σ H s) (r : Vals vs us) (h : spF G fn (vs ++ dvs) H Q (fun c d H => W c d σ H)) : wpAny (model X.prog X.w) X.A (call (.ref f) us) (EP X pins σ Q) X.xe s := by
  have r2 := r.append hd
  have hl : (us ++ ds).length = ps.length := r2.length.symm.trans (Fo.len _ _ _ _ h)
  refine wpAny_call (codeAny_mono (Fo.run X.A X.stack s H ⟨us, []⟩ (us ++ ds) (vs ++ dvs) Q _ hr I.env0 (hb s us I.kIn hl) r2 h) fun r s' hq => ?_)
  match r, hq with
  | .error e, hq => exact px σ pins H s e s' I hq
  | .ok (.ret u), hq => exact I.after hq
theorem spF_of {F : Hp} {ρ : List Addr} {μ : Mu} {H : Hp} {vs : List V} {svs : List Sv} {σ : L2.St} {Q : VK} {rr : Except Exn Sv × Mu} (w : Wf G F ρ μ H) (r : RsL G F ρ vs svs) (hd : RpL G F dvs dds)
    (e : fn (svs ++ dds.map Sv.d) μ = some rr) (p : Post G W σ F ρ (Rs G) Q rr) : spF G fn (vs ++ dvs) H Q (fun c d H => W c d σ H) :=
  ⟨F, ρ, μ, svs ++ dds.map Sv.d, rr, w, r.app (RsL.ofD hd), e, by
    obtain ⟨a, μ1⟩ := rr
    cases a with
    | ok a => exact p
    | error a => exact p⟩
end
end Z
namespace Z
open PySem PySem.Spec PyProof.Rows L2
section
variable {G : Gx} {X : Cx} {W : WX} {k : Nat} {f C : Addr} {fd : FuncData} {ps : List Str} {fn : Fn} {dvs : List V} {dds : List D} {ds : List Value} {x m : Str} {p pos apos : Pos} {e o : Expr} {es : List Expr} {fa fo : Fz Sv} {fr : Fz (List Sv)}
/-- f(a, ..) -/
theorem z_call (Fo : FnOk X.prog X.w X.K X.mg X.base (L2.CX X.prog X.w) k f fd ps (spF G fn)) (hr : Room k X.A) (hg : Gl X x) (hm : X.mg x = some (.ref f)) (hk : PySem.W.keepIn X.K (.ref f) = true) (hb : Binds X.K fd ps ds) (hd : Vals dvs ds) (hdd : ∀ F, RpL G F dvs dds) (px : Pz X W)
    (ha : PA X (e :: es) (zA G W fr)) (hdb : (x == ("__debug__" : Str)) = false := by decide) (he : starEach (e :: es) X.env = (false, eval e X.env) :: starEach es X.env := by rfl) (hpl : (backTo pos (starEach es X.env)).any (·.1) = false := by rfl) :
    PE X (.Call (.Name x p) (e :: es) [] pos) (zE G W (fCall fn dds fr)) := ⟨fun pins s σ H Q I q => by
  obtain ⟨F, ρ, δ, μ, r, wf, sl, eq, po⟩ := q
  have q2 : zA G W fr σ H (fun vs H1 => spF G fn (vs ++ dvs) H1 Q (fun c d H => W c d σ H)) :=
    zstep wf sl eq po fun sa μ1 vs F1 ρ1 H1 g1 w1 s1 rx e1 p1 => spF_of w1 rx (hdd F1) e1 p1
  refine wpAny_Call_Name_kw (ld_glob I hg hm ?_ hdb)
  refine PySem.W.callWith_K (h₀ := X.base) I.ok.mod.kin hk (thn (ha.run pos pins s σ H _ I q2) ?_) he hpl
  exact fun us s1 ⟨vs, H1, I1, r, q3⟩ => ⟨I1.kIn, runz Fo hr hb hd px I1 r q3⟩⟩
theorem z_call0 (Fo : FnOk X.prog X.w X.K X.mg X.base (L2.CX X.prog X.w) k f fd ps (spF G fn)) (hr : Room k X.A) (hg : Gl X x) (hm : X.mg x = some (.ref f)) (hk : PySem.W.keepIn X.K (.ref f) = true) (hb : Binds X.K fd ps ds) (hd : Vals dvs ds) (hdd : ∀ F, RpL G F dvs dds) (px : Pz X W)
    (hdb : (x == ("__debug__" : Str)) = false := by decide) : PE X (.Call (.Name x p) [] [] pos) (zE G W (fCall fn dds fNil)) := ⟨fun pins s σ H Q I q => by
  obtain ⟨F, ρ, δ, μ, r, wf, sl, eq, po⟩ := q
  refine wpAny_Call_Name_kw (ld_glob I hg hm ?_ hdb)
  exact PySem.W.callWith_K0 I.kIn hk (runz (us := []) (vs := []) Fo hr hb hd px I .nil (spF_of wf .nil (hdd F) eq po))⟩

/-- a method, by the receiver's class; ms: the classes that are looked for, each with its function and defaults -/
def clsOf (μ : Mu) : Sv → Option String
  | .d (.ins c _) => some c
  | .c n => match μ[n]? with
    | some (.ins c _) => some c
    | _ => none
  | _ => none
def noFld (μ : Mu) (m : String) : Sv → Bool
  | .d (.ins _ fs) => (fs.lookup m).isNone
  | .c n => match μ[n]? with
    | some (.ins _ fs) => (fs.lookup m).isNone
    | _ => false
  | _ => false
def pick (m : String) (ms : List (String × Fn × List D)) (μ : Mu) (o : Sv) : Option (Fn × List D) := if noFld μ m o = true then (clsOf μ o).bind fun c => ms.lookup c else none
def fMeth (m : String) (ms : List (String × Fn × List D)) (fo : Fz Sv) (fr : Fz (List Sv)) : Fz Sv := fun δ μ => (fo δ μ).bind fun o μ => match pick m ms μ o with
  | some (fn, dds) => (fr δ μ).bind fun as μ => fn (o :: (as ++ dds.map Sv.d)) μ
  | none => none
/-- what the top says of a method -/
structure MOk (P : Program) (w : World) (G : Gx) (mg : Str → Option Value) (base : Heap) (k : Nat) (m : Str) (c : String) (fn : Fn) (dds : List D) : Prop where
  cl : Cls G.K (G.cls c)
  ok : ∃ f fd ps ds dvs, Meth G.K (G.cls c) m f ∧ FnOk P w G.K mg base (L2.CX P w) k f fd ps (spF G fn) ∧ Binds G.K fd ps ds ∧ Vals dvs ds ∧ ∀ F, RpL G F dvs dds
inductive MsOk (P : Program) (w : World) (G : Gx) (mg : Str → Option Value) (base : Heap) (k : Nat) (m : Str) : List (String × Fn × List D) → Prop
  | nil : MsOk P w G mg base k m []
  | cons {c : String} {fn : Fn} {dds : List D} {r : List (String × Fn × List D)} : MOk P w G mg base k m c fn dds → MsOk P w G mg base k m r → MsOk P w G mg base k m ((c, fn, dds) :: r)
theorem MsOk.look {P : Program} {w : World} {G : Gx} {mg : Str → Option Value} {base : Heap} {k : Nat} {m : Str} {c : String} {fn : Fn} {dds : List D} : ∀ {ms : List (String × Fn × List D)}, MsOk P w G mg base k m ms → ms.lookup c = some (fn, dds) → MOk P w G mg base k m c fn dds
  | _, .nil, h => by cases h
  | _, .cons (c := c') h1 h2, h => by
    rw [List.lookup_cons] at h
    split at h
    · rename_i q
      cases h
      have q' : c = c' := by simpa using q
      subst q'
      exact h1
    · exact MsOk.look h2 h
theorem ofString_inj {a b : String} (h : Str.ofString a = Str.ofString b) : a = b := by
  rw [Str.ofString_eq_toList, Str.ofString_eq_toList] at h
  have h2 : a.toList.map Char.toNat = b.toList.map Char.toNat := by
    have := congrArg (fun z : Str => z.cps.toList) h
    simpa using this
  have inj : Function.Injective Char.toNat := fun x y e => by
    apply Char.ext
    apply UInt32.toNat_inj.mp
    exact e
  have h3 : a.toList = b.toList := (List.map_inj_right (fun x y => inj.eq_iff (a := x) (b := y) |>.mp)).mp h2
  exact String.toList_inj.mp h3
theorem lookF_no {F : Hp} {m : String} : ∀ {fs : List (Str × V)} {gs : List (String × D)}, RpF G F fs gs → (gs.lookup m).isNone = true → fs.lookup (Str.ofString m) = none
  | _, _, .nil, _ => rfl
  | _, _, .cons (x := y) h r, e => by
    rw [List.lookup_cons] at e ⊢
    split at e
    · cases e
    · rename_i q
      have ne : ¬ (Str.ofString m == Str.ofString y) = true := fun z => by
        have := ofString_inj (eq_of_beq z)
        subst this
        simp at q
      simp only [ne]
      exact lookF_no r e
theorem lookS_no {F : Hp} {ρ : List Addr} {m : String} : ∀ {fs : List (Str × V)} {gs : List (String × Sv)}, RsF G F ρ fs gs → (gs.lookup m).isNone = true → fs.lookup (Str.ofString m) = none
  | _, _, .nil, _ => rfl
  | _, _, .cons (k := y) h r, e => by
    rw [List.lookup_cons] at e ⊢
    split at e
    · cases e
    · rename_i q
      have ne : ¬ (Str.ofString m == Str.ofString y) = true := fun z => by
        have := ofString_inj (eq_of_beq z)
        subst this
        simp at q
      simp only [ne]
      exact lookS_no r e
theorem cls_at {F : Hp} {ρ : List Addr} {μ : Mu} {H : Hp} {v : V} {sv : Sv} {c : String} {m : String} (wf : Wf G F ρ μ H) (r : Rs G F ρ v sv) (h : clsOf μ sv = some c) (hm : noFld μ m sv = true) : ∃ a dx fs, v = .ref a ∧ H a = some (.ins (G.cls c) dx fs) ∧ fs.lookup (Str.ofString m) = none := by
  unfold clsOf at h
  split at h
  · cases h
    cases r with
    | d r => cases r with
      | ins h1 h2 => exact ⟨_, _, _, rfl, wf.ex _ _ h1, lookF_no h2 hm⟩
  · rename_i n
    split at h
    · rename_i c' fs hc
      cases h
      cases r with
      | c hr =>
        obtain ⟨_, dx, vs, h1, h2⟩ := wf.cell n _ _ hr hc
        refine ⟨_, dx, vs, rfl, h1, lookS_no h2 ?_⟩
        unfold noFld at hm
        simp only [hc] at hm
        exact hm
    · cases h
  · cases h
theorem pick_at {F : Hp} {ρ : List Addr} {μ : Mu} {H : Hp} {v : V} {sv : Sv} {m : String} {ms : List (String × Fn × List D)} {fn : Fn} {dds : List D} (wf : Wf G F ρ μ H) (r : Rs G F ρ v sv) (h : pick m ms μ sv = some (fn, dds)) :
    ∃ c a dx fs, ms.lookup c = some (fn, dds) ∧ v = .ref a ∧ H a = some (.ins (G.cls c) dx fs) ∧ fs.lookup (Str.ofString m) = none := by
  unfold pick at h
  split at h
  · rename_i nf
    cases hc : clsOf μ sv with
    | none => rw [hc] at h; cases h
    | some c =>
      rw [hc] at h
      obtain ⟨a, dx, fs, h1, h2, h3⟩ := cls_at wf r hc nf
      exact ⟨c, a, dx, fs, h, h1, h2, h3⟩
  · cases h
theorem z_meth {ms : List (String × Fn × List D)} {pl : Sem Bool} (mS : String) (hmS : m = Str.ofString mS) (Ms : MsOk X.prog X.w G X.mg X.base k m ms) (hK : X.K = G.K) (hr : Room k X.A) (px : Pz X W) (ho : PE X o (zE G W fo)) (ha : PA X (e :: es) (zA G W fr))
    (hst : starEach (e :: es) X.env = (false, eval e X.env) :: starEach es X.env := by rfl) (hpl : (backTo pos (starEach es X.env)).any (·.1) = false := by rfl)
    (ht : eval (.Call (.Attribute o m apos) (e :: es) [] pos) X.env = (do
      let rv ← eval o X.env
      standAt apos.atName
      let (f, first) ← holding [rv] (getMethod rv m pl)
      callWith pos f first (backTo pos (starEach (e :: es) X.env)) (backToKw pos (keywordEach [] X.env))) := by rfl) :
    PE X (.Call (.Attribute o m apos) (e :: es) [] pos) (zE G W (fMeth mS ms fo fr)) := ⟨fun pins s σ H Q I q => by
  obtain ⟨F, ρ, δ, μ, r, wf, sl, eq, po⟩ := q
  have q2 : zE G W fo σ H (fun v H1 => ∃ c a dx fs fn dds, ms.lookup c = some (fn, dds) ∧ v = .ref a ∧ H1 a = some (.ins (G.cls c) dx fs) ∧ fs.lookup m = none ∧ zA G W fr σ H1 (fun vs H2 => ∀ (dvs : List V), (∀ F, RpL G F dvs dds) → spF G fn ((v :: vs) ++ dvs) H2 Q (fun c d H => W c d σ H))) :=
    zstep wf sl eq po fun sa μ1 v F1 ρ1 H1 g1 w1 s1 rx e1 p1 => by
      split at e1
      · rename_i fn dds hp
        obtain ⟨c, a, dx, fs, h0, h1, h2, h3⟩ := pick_at w1 rx hp
        refine ⟨c, a, dx, fs, fn, dds, h0, h1, h2, by rw [hmS]; exact h3, ?_⟩
        refine zstep w1 s1 e1 p1 fun as μ2 vs F2 ρ2 H2 g2 w2 s2 ry e2 p2 dvs hdd => ?_
        exact spF_of (svs := sa :: as) w2 (.cons (rx.mono g2) ry) (hdd F2) e2 p2
      · cases e1
  refine PySem.W.methodCall_KW (pl := pl) (thn (ho.run pins s σ H _ I q2) fun u s1 ⟨v, H1, I1, rv, c, a, dx, fs, fn, dds, hl, ev, ha1, hf, q3⟩ => ?_) ht
  subst ev
  obtain rfl : u = Value.ref a := rv
  obtain ⟨cl, f, fd, ps, ds, dvs, me, ok, bi, vd, hdd⟩ := Ms.look hl
  rw [← hK] at cl me ok bi
  refine getmeth_ok I1 ha1 cl me hf ?_
  refine PySem.W.callWith_K (first := [.ref a]) (h₀ := X.base) I.ok.mod.kin me.kp (thn (ha.run pos pins s1 σ H1 _ I1 q3) ?_) hst hpl
  exact fun us s2 ⟨vs, H2, I2, r2, q4⟩ => ⟨I2.kIn, runz (us := .ref a :: us) (vs := .ref a :: vs) ok hr bi vd px I2 (.cons rfl r2) (q4 dvs hdd)⟩⟩
theorem z_meth0 {ms : List (String × Fn × List D)} {pl : Sem Bool} (mS : String) (hmS : m = Str.ofString mS) (Ms : MsOk X.prog X.w G X.mg X.base k m ms) (hK : X.K = G.K) (hr : Room k X.A) (px : Pz X W) (ho : PE X o (zE G W fo))
    (ht : eval (.Call (.Attribute o m apos) [] [] pos) X.env = (do
      let rv ← eval o X.env
      standAt apos.atName
      let (f, first) ← holding [rv] (getMethod rv m pl)
      callWith pos f first (backTo pos (starEach [] X.env)) (backToKw pos (keywordEach [] X.env))) := by rfl) :
    PE X (.Call (.Attribute o m apos) [] [] pos) (zE G W (fMeth mS ms fo fNil)) := ⟨fun pins s σ H Q I q => by
  obtain ⟨F, ρ, δ, μ, r, wf, sl, eq, po⟩ := q
  have q2 : zE G W fo σ H (fun v H1 => ∃ c a dx fs fn dds, ms.lookup c = some (fn, dds) ∧ v = .ref a ∧ H1 a = some (.ins (G.cls c) dx fs) ∧ fs.lookup m = none ∧ ∀ (dvs : List V), (∀ F, RpL G F dvs dds) → spF G fn ([v] ++ dvs) H1 Q (fun c d H => W c d σ H)) :=
    zstep wf sl eq po fun sa μ1 v F1 ρ1 H1 g1 w1 s1 rx e1 p1 => by
      split at e1
      · rename_i fn dds hp
        obtain ⟨c, a, dx, fs, h0, h1, h2, h3⟩ := pick_at w1 rx hp
        refine ⟨c, a, dx, fs, fn, dds, h0, h1, h2, by rw [hmS]; exact h3, fun dvs hdd => ?_⟩
        exact spF_of (svs := [sa]) w1 (.cons rx .nil) (hdd F1) e1 p1
      · cases e1
  refine PySem.W.methodCall_KW (pl := pl) (thn (ho.run pins s σ H _ I q2) fun u s1 ⟨v, H1, I1, rv, c, a, dx, fs, fn, dds, hl, ev, ha1, hf, q3⟩ => ?_) ht
  subst ev
  obtain rfl : u = Value.ref a := rv
  obtain ⟨cl, f, fd, ps, ds, dvs, me, ok, bi, vd, hdd⟩ := Ms.look hl
  rw [← hK] at cl me ok bi
  refine getmeth_ok I1 ha1 cl me hf ?_
  exact PySem.W.callWith_K0 (first := [.ref a]) I1.kIn me.kp (runz (us := [.ref a]) (vs := [.ref a]) ok hr bi vd px I1 (.cons rfl .nil) (q3 dvs hdd))⟩
end
end Z
namespace Z
open PySem PySem.Spec PyProof.Rows L2

/-! ### targets -/
abbrev Tz := Sv → Dl → Option Dl
/-- σ' is σ but at the slots js -/
def SameBut (js : List Nat) (σ σ' : L2.St) : Prop := σ'.length = σ.length ∧ ∀ i, i ∉ js → σ'[i]? = σ[i]?
structure ZG (G : Gx) (js : List Nat) (tg : TG) (g : Tz) : Prop where
  ok : ∀ (F : Hp) (ρ : List Addr) (μ : Mu) (H : Hp) (σ : L2.St) (δ δ' : Dl) (v : V) (x : Sv) (Q : L2.St → Hp → Prop), Wf G F ρ μ H → Sl G F ρ σ δ → Rs G F ρ v x → g x δ = some δ' → (∀ σ', SameBut js σ σ' → Sl G F ρ σ' δ' → Q σ' H) → tg v σ H Q
def gN (i : Nat) : Tz := fun x δ => some (δ.set i (some x))
theorem zg_name {G : Gx} (i : Nat) : ZG G [i] (gName i) (gN i) := ⟨fun F ρ μ H σ δ δ' v x Q w s r e k => by
  cases e
  refine k _ ⟨by simp, fun j hj => ?_⟩ (s.set r i)
  have : i ≠ j := fun z => hj (by simp [z])
  rw [List.getElem?_set_ne this]⟩
def gE : List Sv → Dl → Option Dl := fun l δ => match l with
  | [] => some δ
  | _ => none
def gC (g : Tz) (h : List Sv → Dl → Option Dl) : List Sv → Dl → Option Dl := fun l δ => match l with
  | x :: r => (g x δ).bind (h r)
  | [] => none
inductive ZGs (G : Gx) : List Nat → TGs → (List Sv → Dl → Option Dl) → Prop
  | nil : ZGs G [] gNil gE
  | cons {js ks : List Nat} {t : TG} {u : TGs} {g : Tz} {h : List Sv → Dl → Option Dl} : ZG G js t g → ZGs G ks u h → ZGs G (js ++ ks) (gCons t u) (gC g h)
theorem ZGs.ok {G : Gx} {F : Hp} {ρ : List Addr} {μ : Mu} {H : Hp} : ∀ {js : List Nat} {tg : TGs} {g : List Sv → Dl → Option Dl} {σ : L2.St} {δ δ' : Dl} {vs : List V} {xs : List Sv} {Q : L2.St → Hp → Prop}, ZGs G js tg g → Wf G F ρ μ H → Sl G F ρ σ δ → RsL G F ρ vs xs → g xs δ = some δ' →
    (∀ σ', SameBut js σ σ' → Sl G F ρ σ' δ' → Q σ' H) → tg vs σ H Q
  | _, _, _, σ, δ, _, _, _, Q, .nil, w, s, r, e, k => by
    cases r with
    | nil => cases e; exact ⟨rfl, k σ ⟨rfl, fun _ _ => rfl⟩ s⟩
    | cons _ _ => cases e
  | _, _, _, σ, δ, _, _, _, Q, .cons (js := js) (ks := ks) (g := g) h1 h2, w, s, r, e, k => by
    cases r with
    | nil => cases e
    | cons r1 r2 =>
      rename_i v x vs xs
      cases hg : g x δ with
      | none => simp [gC, hg] at e
      | some δ1 =>
        simp only [gC, hg, Option.bind_some] at e
        refine ⟨v, vs, rfl, h1.ok F ρ μ H σ δ δ1 v x _ w s r1 hg fun σ1 b1 s1 => ?_⟩
        refine ZGs.ok h2 w s1 r2 e fun σ2 b2 s2 => k σ2 ⟨b2.1.trans b1.1, fun i hi => ?_⟩ s2
        simp only [List.mem_append, not_or] at hi
        rw [b2.2 i hi.2, b1.2 i hi.1]
/-- (a, b, ..): a tuple of that length -/
def gT (h : List Sv → Dl → Option Dl) : Tz := fun x δ => match x with
  | .d (.tup l) => h (l.map Sv.d) δ
  | _ => none
theorem zg_tup {G : Gx} {js : List Nat} {n : Nat} {t : TGs} {h : List Sv → Dl → Option Dl} (z : ZGs G js t h) (hn : ∀ (l : List Sv) δ δ', h l δ = some δ' → l.length = n) : ZG G js (gTup G.K n t) (gT h) := ⟨fun F ρ μ H σ δ δ' v x Q w s r e k => by
  unfold gT at e
  split at e
  · rename_i l
    cases r with
    | d r =>
      cases r with
      | tup h1 h2 =>
        refine ⟨_, _, rfl, w.ex.t h1, ?_, z.ok w s (RsL.ofD h2) e k⟩
        have := hn _ _ _ e
        rw [h2.len]; simpa using this
  · cases e⟩
theorem len_nil : ∀ (l : List Sv) (δ δ' : Dl), gE l δ = some δ' → l.length = 0
  | [], _, _, _ => rfl
  | _ :: _, _, _, e => by cases e
theorem len_cons {g : Tz} {h : List Sv → Dl → Option Dl} {n : Nat} (hn : ∀ (l : List Sv) δ δ', h l δ = some δ' → l.length = n) : ∀ (l : List Sv) (δ δ' : Dl), gC g h l δ = some δ' → l.length = n + 1
  | [], _, _, e => by cases e
  | x :: r, δ, δ', e => by
    cases hg : g x δ with
    | none => simp [gC, hg] at e
    | some δ1 =>
      simp only [gC, hg, Option.bind_some] at e
      simp [hn _ _ _ e]

/-! ### what is walked -/
def WalkOk (G : Gx) (F : Hp) (ρ : List Addr) (J : It) (items : List Sv) : Prop := ∀ F' ρ' μ' H', Gr F F' ρ ρ' → Wf G F' ρ' μ' H' → ∀ i : Nat,
  (items.length ≤ i → J.stop i H') ∧ ∀ y, items[i]? = some y → J.go i H' ∧ ∀ x H'', J.yld i H' x H'' → ∃ F'' ρ'', Gr F' F'' ρ' ρ'' ∧ Wf G F'' ρ'' μ' H'' ∧ Rs G F'' ρ'' x y
abbrev zI (G : Gx) (W : WX) (f : Fz (List Sv)) : TI := zG G W (WalkOk G) f
theorem piImp {X : Cx} {tg e : Expr} {t t' : TI} (h : PI X tg e t) (i : ∀ σ H Q, t' σ H Q → t σ H Q) : PI X tg e t' := ⟨fun pins s σ H Q I q => h.run pins s σ H Q I (i _ _ _ q)⟩
theorem piOr {X : Cx} {tg e : Expr} {t t' : TI} (h : PI X tg e t) (h' : PI X tg e t') : PI X tg e (fun σ H Q => t σ H Q ∨ t' σ H Q) := ⟨fun pins s σ H Q I q => q.elim (h.run pins s σ H Q I) (h'.run pins s σ H Q I)⟩

def forL (g : Tz) (S : Sz) : List Sv → Sz
  | [], δ, μ => some (.nx, δ, μ)
  | x :: xs, δ, μ => match g x δ with
    | none => none
    | some δ1 => match S δ1 μ with
      | some (.nx, δ2, μ2) => forL g S xs δ2 μ2
      | some (.ct, δ2, μ2) => forL g S xs δ2 μ2
      | some (.bk, δ2, μ2) => some (.nx, δ2, μ2)
      | r => r
def sFor (fi : Fz (List Sv)) (g : Tz) (S : Sz) : Sz := fun δ μ => eS (fi δ μ) δ fun items μ => forL g S items δ μ
section
variable {G : Gx} {X : Cx} {W : WX} {tg iter c : Expr} {body : List Stmt} {fi : Fz (List Sv)} {t : TG} {g : Tz} {S : Sz} {js : List Nat} {pos : Pos} {tc : Fz Bool}
theorem zs_for (hp : PassesOwn (model X.prog X.w) X.A X.env X.xe) (hc : X.calm = true) (hi : PI X tg iter (zI G W fi)) (hg : PG X tg t) (zg : ZG G js t g) (hb : PSs X body (zS G W S)) (hs : ∀ x, foldedSetIterable iter X.env x = pure x := by intro _; rfl) :
    PS X (.For tg iter body [] pos) (zS G W (sFor fi g S)) := psImp (ps_for hp hc hi hg hb hs) fun D σ H q => by
  obtain ⟨F, ρ, δ, μ, r, w, s, e, p⟩ := q
  refine zstepS w s e p fun items μ1 J F1 ρ1 H1 g1 w1 s1 wk e1 p1 => ?_
  refine ⟨fun i m σ' H' => m = items.length - i ∧ i ≤ items.length ∧ ∃ F' ρ' δ' μ', Gr F1 F' ρ1 ρ' ∧ Wf G F' ρ' μ' H' ∧ Sl G F' ρ' σ' δ' ∧ forL g S (items.drop i) δ' μ' = some r,
    ⟨items.length, rfl, Nat.zero_le _, F1, ρ1, δ, μ1, Gr.refl _ _, w1, s1, e1⟩, ?_⟩
  rintro i m σ' H' ⟨rfl, hi, F', ρ', δ', μ', g', w', s', e'⟩
  by_cases hlt : i < items.length
  · have hd : items.drop i = items[i] :: items.drop (i + 1) := List.drop_eq_getElem_cons hlt
    obtain ⟨go, yl⟩ := (wk F' ρ' μ' H' g' w' i).2 items[i] (List.getElem?_eq_getElem hlt)
    refine .inr ⟨go, fun σ2 H2 => ∃ F2 ρ2 δ2 μ2, Gr F1 F2 ρ1 ρ2 ∧ Wf G F2 ρ2 μ2 H2 ∧ Sl G F2 ρ2 σ2 δ2 ∧ forL g S (items.drop (i + 1)) δ2 μ2 = some r, fun σ2 H2 ⟨F2, ρ2, δ2, μ2, g2, w2, s2, e2⟩ => ⟨items.length - (i + 1), by omega, rfl, hlt, F2, ρ2, δ2, μ2, g2, w2, s2, e2⟩, fun x H2 hy => ?_⟩
    obtain ⟨F2, ρ2, g2, w2, rx⟩ := yl x H2 hy
    rw [hd] at e'
    unfold forL at e'
    cases hg : g items[i] δ' with
    | none => simp [hg] at e'
    | some δ1 =>
      simp only [hg] at e'
      refine zg.ok F2 ρ2 μ' H2 σ' δ' δ1 x _ _ w2 (s'.mono g2) rx hg fun σ3 _ s3 => ?_
      cases hS : S δ1 μ' with
      | none => simp [hS] at e'
      | some q =>
        obtain ⟨fl, δ4, μ4⟩ := q
        have gg : Gr F1 F2 ρ1 ρ2 := g'.trans g2
        refine ⟨F2, ρ2, δ1, μ', _, w2, s3, hS, ?_⟩
        cases fl with
        | nx => simp only [hS] at e'; exact fun σ5 F5 ρ5 H5 g5 w5 s5 => ⟨F5, ρ5, δ4, μ4, gg.trans g5, w5, s5, e'⟩
        | ct => simp only [hS] at e'; exact fun σ5 F5 ρ5 H5 g5 w5 s5 => ⟨F5, ρ5, δ4, μ4, gg.trans g5, w5, s5, e'⟩
        | bk => simp only [hS] at e'; cases e'; exact fun σ5 F5 ρ5 H5 g5 w5 s5 => p1 σ5 F5 ρ5 H5 (gg.trans g5) w5 s5
        | rt v => simp only [hS] at e'; cases e'; exact fun a F5 ρ5 H5 g5 w5 s5 => p1 a F5 ρ5 H5 (gg.trans g5) w5 s5
        | ex v => simp only [hS] at e'; cases e'; exact fun c d σ5 F5 ρ5 H5 g5 w5 s5 => p1 c d σ5 F5 ρ5 H5 (gg.trans g5) w5 s5
  · have hi' : items.length ≤ i := by omega
    refine .inl ⟨(wk F' ρ' μ' H' g' w' i).1 hi', ?_⟩
    rw [List.drop_eq_nil_of_le hi'] at e'
    cases e'
    exact p1 σ' F' ρ' H' g' w' s'

/-! ### while -/
def whileN (c : Fz Bool) (S : Sz) : Nat → Sz
  | 0, _, _ => none
  | n + 1, δ, μ => eS (c δ μ) δ fun b μ => if b = true then (match S δ μ with
    | some (.nx, δ2, μ2) => whileN c S n δ2 μ2
    | some (.ct, δ2, μ2) => whileN c S n δ2 μ2
    | some (.bk, δ2, μ2) => some (.nx, δ2, μ2)
    | r => r) else some (.nx, δ, μ)
open Classical in
noncomputable def sWhile (c : Fz Bool) (S : Sz) : Sz := fun δ μ => if h : ∃ n r, whileN c S n δ μ = some r then some h.choose_spec.choose else none
theorem whileN_succ {c : Fz Bool} {S : Sz} : ∀ {n : Nat} {δ : Dl} {μ : Mu} {r : Fl × Dl × Mu}, whileN c S n δ μ = some r → whileN c S (n + 1) δ μ = some r
  | 0, _, _, _, h => by cases h
  | n + 1, δ, μ, r, h => by
    unfold whileN at h ⊢
    cases hc : c δ μ with
    | none => rw [hc] at h; cases h
    | some q =>
      obtain ⟨b, μ1⟩ := q
      rw [hc] at h
      cases b with
      | error x => exact h
      | ok b =>
        simp only [eS_ok] at h ⊢
        split
        · rename_i hb
          rw [if_pos hb] at h
          cases hS : S δ μ1 with
          | none => rw [hS] at h; cases h
          | some q =>
            obtain ⟨fl, δ2, μ2⟩ := q
            rw [hS] at h
            cases fl with
            | nx => exact whileN_succ h
            | ct => exact whileN_succ h
            | bk => exact h
            | rt v => exact h
            | ex v => exact h
        · rename_i hb
          rw [if_neg hb] at h
          exact h
theorem whileN_le {c : Fz Bool} {S : Sz} {n m : Nat} {δ : Dl} {μ : Mu} {r : Fl × Dl × Mu} (h : whileN c S n δ μ = some r) (hm : n ≤ m) : whileN c S m δ μ = some r := by
  induction hm with
  | refl => exact h
  | step _ ih => exact whileN_succ ih
theorem sWhile_of {c : Fz Bool} {S : Sz} {n : Nat} {δ : Dl} {μ : Mu} {r : Fl × Dl × Mu} (h : whileN c S n δ μ = some r) : sWhile c S δ μ = some r := by
  have hx : ∃ n r, whileN c S n δ μ = some r := ⟨n, r, h⟩
  unfold sWhile
  rw [dif_pos hx]
  have h2 := hx.choose_spec.choose_spec
  have a := whileN_le h (Nat.le_max_left n hx.choose)
  have b := whileN_le h2 (Nat.le_max_right n hx.choose)
  rw [a] at b
  rw [← b]
theorem of_sWhile {c : Fz Bool} {S : Sz} {δ : Dl} {μ : Mu} {r : Fl × Dl × Mu} (h : sWhile c S δ μ = some r) : ∃ n, whileN c S n δ μ = some r := by
  unfold sWhile at h
  split at h
  · rename_i hx
    exact ⟨_, by rw [← h]; exact hx.choose_spec.choose_spec⟩
  · cases h
theorem zs_while (hp : PassesOwn (model X.prog X.w) X.A X.env X.xe) (hc : PT X c (zT G W tc)) (hb : PSs X body (zS G W S)) : PS X (.While c body [] pos) (zS G W (sWhile tc S)) := psImp (ps_while hp hc hb) fun D σ H q => by
  obtain ⟨F, ρ, δ, μ, r, w, s, e, p⟩ := q
  obtain ⟨n, e⟩ := of_sWhile e
  refine ⟨fun m σ' H' => ∃ F' ρ' δ' μ', Gr F F' ρ ρ' ∧ Wf G F' ρ' μ' H' ∧ Sl G F' ρ' σ' δ' ∧ whileN tc S m δ' μ' = some r, ⟨n, F, ρ, δ, μ, Gr.refl _ _, w, s, e⟩, ?_⟩
  rintro m σ' H' ⟨F', ρ', δ', μ', g', w', s', e'⟩
  cases m with
  | zero => cases e'
  | succ m =>
    unfold whileN at e'
    refine zstepS w' s' e' (p.mono g') fun b μ1 a F1 ρ1 H1 g1 w1 s1 ab e1 p1 => ?_
    subst ab
    cases a with
    | false =>
      simp only [Bool.false_eq_true, if_false] at e1 ⊢
      cases e1
      exact p1 σ' F1 ρ1 H1 (Gr.refl _ _) w1 s1
    | true =>
      simp only [if_true] at e1 ⊢
      refine ⟨fun σ2 H2 => ∃ F2 ρ2 δ2 μ2, Gr F F2 ρ ρ2 ∧ Wf G F2 ρ2 μ2 H2 ∧ Sl G F2 ρ2 σ2 δ2 ∧ whileN tc S m δ2 μ2 = some r, fun σ2 H2 q => ⟨m, Nat.lt_succ_self m, q⟩, ?_⟩
      cases hS : S δ' μ1 with
      | none => simp [hS] at e1
      | some q =>
        obtain ⟨fl, δ4, μ4⟩ := q
        have gg : Gr F F1 ρ ρ1 := g'.trans g1
        refine ⟨F1, ρ1, δ', μ1, _, w1, s1, hS, ?_⟩
        cases fl with
        | nx => simp only [hS] at e1; exact fun σ5 F5 ρ5 H5 g5 w5 s5 => ⟨F5, ρ5, δ4, μ4, gg.trans g5, w5, s5, e1⟩
        | ct => simp only [hS] at e1; exact fun σ5 F5 ρ5 H5 g5 w5 s5 => ⟨F5, ρ5, δ4, μ4, gg.trans g5, w5, s5, e1⟩
        | bk => simp only [hS] at e1; cases e1; exact fun σ5 F5 ρ5 H5 g5 w5 s5 => p σ5 F5 ρ5 H5 (gg.trans g5) w5 s5
        | rt v => simp only [hS] at e1; cases e1; exact fun a F5 ρ5 H5 g5 w5 s5 => p a F5 ρ5 H5 (gg.trans g5) w5 s5
        | ex v => simp only [hS] at e1; cases e1; exact fun c d σ5 F5 ρ5 H5 g5 w5 s5 => p c d σ5 F5 ρ5 H5 (gg.trans g5) w5 s5
end
end Z
namespace Z
open PySem PySem.Spec PyProof.Rows L2

/-! ### a cell that is held no more becomes a tree -/
def toDs : List Sv → Option (List D)
  | [] => some []
  | .d x :: r => (toDs r).map fun l => x :: l
  | .c _ :: _ => none
def toFs : List (String × Sv) → Option (List (String × D))
  | [] => some []
  | (k, .d x) :: r => (toFs r).map fun l => (k, x) :: l
  | (_, .c _) :: _ => none
theorem toDs_map : ∀ l : List D, toDs (l.map Sv.d) = some l
  | [] => rfl
  | x :: r => by simp [toDs, toDs_map r]
theorem of_toDs : ∀ {xs : List Sv} {ds : List D}, toDs xs = some ds → xs = ds.map Sv.d
  | [], ds, h => by cases h; rfl
  | .d x :: r, ds, h => by
    unfold toDs at h
    cases hr : toDs r with
    | none => rw [hr] at h; cases h
    | some l => rw [hr] at h; cases h; rw [of_toDs hr]; rfl
  | .c _ :: _, _, h => by cases h
theorem RsF.toF {G : Gx} {F : Hp} {ρ : List Addr} : ∀ {vs : List (Str × V)} {xs : List (String × Sv)} {fs : List (String × D)}, RsF G F ρ vs xs → toFs xs = some fs → RpF G F vs fs
  | _, _, _, .nil, h => by cases h; exact .nil
  | _, (k, .d x) :: r, fs, .cons (.d h1) h2, h => by
    unfold toFs at h
    cases hr : toFs r with
    | none => rw [hr] at h; cases h
    | some l => rw [hr] at h; cases h; exact .cons h1 (RsF.toF h2 hr)
  | _, (k, .c _) :: r, _, .cons _ _, h => by cases h
noncomputable def frzV (μ0 : Mu) (v : Sv) (μ : Mu) : Rz Sv := match v with
  | .d x => some (.ok (.d x), μ)
  | .c n => match μ[n]? with
    | some (.lst xs) => match toDs xs with
      | some ds => some (.ok (.d (.lst ds)), gcM μ0 (μ.set n .fz))
      | none => none
    | some (.ins c fs) => match toFs fs with
      | some gs => some (.ok (.d (.ins c gs)), gcM μ0 (μ.set n .fz))
      | none => none
    | _ => none
noncomputable def fFrz (f : Fz Sv) : Fz Sv := fun δ μ => (f δ μ).bind fun v μ1 => frzV μ v μ1
section
variable {G : Gx} {X : Cx} {W : WX} {e : Expr} {fa : Fz Sv}
theorem frz_reads {σ : L2.St} {H : Hp} {Q : VK} (q : zE G W (fFrz fa) σ H Q) : zE G W fa σ H Q := by
  obtain ⟨F, ρ, δ, μ, r, w, s, e, p⟩ := q
  refine zstep w s e p fun sa μ1 x F1 ρ1 H1 g1 w1 s1 rx e1 p1 => ?_
  unfold frzV at e1
  split at e1
  · cases e1
    exact p1.ok w1 rx
  · rename_i n
    cases rx with
    | c hr =>
      rename_i a
      split at e1
      · rename_i xs hc
        split at e1
        · rename_i ds hd
          cases e1
          obtain ⟨h0, vs, h1, h2⟩ := w1.cell n a _ hr hc
          obtain ⟨w2, g2⟩ := w1.frz hr h0 h1
          obtain ⟨ρ2, _, g3, w3⟩ := w.gc (g1.trans g2) w2
          have e3 := of_toDs hd
          subst e3
          exact p (.ref a) _ ρ2 H1 g3 w3 (.d (.lst (SqL.of upd_same) ((RsL.toD h2).mono g2.f)))
        · cases e1
      · rename_i c fs hc
        split at e1
        · rename_i gs hd
          cases e1
          obtain ⟨h0, dx, vs, h1, h2⟩ := w1.cell n a _ hr hc
          obtain ⟨w2, g2⟩ := w1.frz hr h0 h1
          obtain ⟨ρ2, _, g3, w3⟩ := w.gc (g1.trans g2) w2
          exact p (.ref a) _ ρ2 H1 g3 w3 (.d (.ins upd_same ((h2.toF hd).mono g2.f)))
        · cases e1
      · cases e1
theorem z_frz (h : PE X e (zE G W fa)) : PE X e (zE G W (fFrz fa)) := peImp h fun _ _ _ q => frz_reads q
end

/-! ### list comprehensions -/
def wipeZ (δ : Dl) : List Nat → Dl
  | [] => δ
  | v :: vs => (wipeZ δ vs).set v none
theorem Sl.wipe {G : Gx} {F : Hp} {ρ : List Addr} {σ : L2.St} {δ : Dl} (s : Sl G F ρ σ δ) : ∀ vs : List Nat, Sl G F ρ (L2.wipe σ vs) (wipeZ δ vs)
  | [] => s
  | v :: vs => Sl.un_at v none (Sl.wipe s vs)
theorem wipe_at (σ : L2.St) : ∀ (vs : List Nat) (i : Nat), (L2.wipe σ vs)[i]? = if i ∈ vs ∧ i < σ.length then some none else σ[i]?
  | [], i => by simp [L2.wipe]
  | v :: vs, i => by
    unfold L2.wipe
    by_cases hv : v = i
    · subst hv
      by_cases hl : v < σ.length
      · rw [List.getElem?_set_self (by rw [L2.wipe_length]; exact hl)]; simp [hl]
      · rw [List.getElem?_eq_none (by simp [L2.wipe_length]; omega)]; simp [hl, List.getElem?_eq_none (show σ.length ≤ v by omega)]
    · rw [List.getElem?_set_ne hv, wipe_at σ vs i]
      have : ¬ i = v := fun z => hv z.symm
      simp [this]
theorem wipe_same {σ σ2 : L2.St} {js vs : List Nat} (hs : ∀ j ∈ js, j ∈ vs) (b : SameBut js (L2.wipe σ vs) σ2) : L2.wipe σ2 vs = L2.wipe σ vs := by
  have hl : σ2.length = σ.length := by rw [b.1, L2.wipe_length]
  apply List.ext_getElem?
  intro i
  rw [wipe_at, wipe_at, hl]
  by_cases hi : i ∈ vs
  · by_cases hl2 : i < σ.length
    · simp [hi, hl2]
    · simp only [hi, hl2, and_false, if_false]
      rw [List.getElem?_eq_none (by omega), List.getElem?_eq_none (by omega)]
  · simp only [hi, false_and, if_false]
    rw [b.2 i (fun h => hi (hs i h)), wipe_at]
    simp [hi]
def fYes : Fz Bool := fun _ μ => some (.ok true, μ)
def lcL (g : Tz) (c : Fz Bool) (e : Fz Sv) (n : Nat) (δ : Dl) : List Sv → Mu → Option Mu
  | [], μ => some μ
  | x :: xs, μ => match g x δ with
    | none => none
    | some δ1 => match c δ1 μ with
      | some (.ok true, μ1) => match e δ1 μ1 with
        | some (.ok y, μ2) => match μ2[n]? with
          | some (.lst acc) => if acc.length < 16777216 then lcL g c e n δ xs (μ2.set n (.lst (acc ++ [y]))) else none
          | _ => none
        | _ => none
      | some (.ok false, μ1) => lcL g c e n δ xs μ1
      | _ => none
def fLcC (fi : Fz (List Sv)) (vs : List Nat) (g : Tz) (c : Fz Bool) (e : Fz Sv) : Fz Sv := fun δ μ => (fi δ μ).bind fun items μ => match lcL g c e μ.length (wipeZ δ vs) items (μ ++ [.lst []]) with
  | some μ' => some (.ok (.c μ.length), μ')
  | none => none
abbrev W0 : WX := fun _ _ _ _ => False
section
variable {G : Gx} {X : Cx} {W : WX} {elt tg iter : Expr} {ifs : List Expr} {fi : Fz (List Sv)} {t : TG} {g : Tz} {js : List Nat} {pos : Pos} {fc : Fz Bool} {fe : Fz Sv} {scope : Scope} {own : List (Str × Nat)}
theorem zts_nil : PTs X [] (zT G W fYes) := ⟨fun pins s σ H Q I q => pts_nil.run pins s σ H Q I (by
  obtain ⟨F, ρ, δ, μ, r, w, s, e, p⟩ := q
  cases e
  exact p.ok w rfl)⟩
theorem zts_one {c : Expr} (h : PT X c (zT G W fc)) : PTs X [c] (zT G W fc) := pts_one h
theorem lc_reads (zg : ZG G js t g) (hj : ∀ j ∈ js, j ∈ own.map (·.2)) {σ : L2.St} {H : Hp} {Q : VK} (q : zE G W (fLcC fi (own.map (·.2)) g fc fe) σ H Q) : tLc (zI G W fi) t (zT G W0 fc) (zE G W0 fe) (own.map (·.2)) σ H Q := by
  obtain ⟨F, ρ, δ, μ, r, w, s, e, p⟩ := q
  refine zstep w s e p fun items μ1 J F1 ρ1 H1 g1 w1 s1 wk e1 p1 => ?_
  intro Dn hD
  split at e1
  case h_2 => cases e1
  rename_i μe he
  cases e1
  obtain ⟨w2, g2⟩ := w1.newC (p := Dn) hD (o := .lst []) (c := .lst []) ⟨w1.ex.none hD, [], upd_same, .nil⟩
  refine ⟨fun i m H' => m = items.length - i ∧ i ≤ items.length ∧ ∃ F' ρ' μ', Gr F1 F' (ρ1 ++ [Dn]) ρ' ∧ Wf G F' ρ' μ' H' ∧ lcL g fc fe μ1.length (wipeZ δ (own.map (·.2))) (items.drop i) μ' = some μe,
    ⟨items.length, rfl, Nat.zero_le _, F1, ρ1 ++ [Dn], _, Gr.refl _ _, w2, he⟩, ?_⟩
  rintro i m H' ⟨rfl, hi, F', ρ', μ', g', w', e'⟩
  have nD : ρ'[μ1.length]? = some Dn := g'.at (by rw [← w1.len]; simp)
  by_cases hlt : i < items.length
  · have hd : items.drop i = items[i] :: items.drop (i + 1) := List.drop_eq_getElem_cons hlt
    obtain ⟨go, yl⟩ := (wk F' ρ' μ' H' (g2.trans g') w' i).2 items[i] (List.getElem?_eq_getElem hlt)
    refine .inr ⟨go, fun H2 => ∃ F2 ρ2 μ2, Gr F1 F2 (ρ1 ++ [Dn]) ρ2 ∧ Wf G F2 ρ2 μ2 H2 ∧ lcL g fc fe μ1.length (wipeZ δ (own.map (·.2))) (items.drop (i + 1)) μ2 = some μe, fun H2 ⟨F2, ρ2, μ2, g2, w2, e2⟩ => ⟨items.length - (i + 1), by omega, rfl, hlt, F2, ρ2, μ2, g2, w2, e2⟩, fun x H2 hy => ?_⟩
    obtain ⟨F2, ρ2, gy, wy, rx⟩ := yl x H2 hy
    rw [hd] at e'
    unfold lcL at e'
    cases hg : g items[i] (wipeZ δ (own.map (·.2))) with
    | none => simp [hg] at e'
    | some δ1 =>
      simp only [hg] at e'
      refine zg.ok F2 ρ2 μ' H2 _ _ δ1 x _ _ wy (((s1.mono g2).mono (g'.trans gy)).wipe _) rx hg fun σ3 b3 s3 => ⟨wipe_same hj b3, ?_⟩
      cases hc : fc δ1 μ' with
      | none => simp [hc] at e'
      | some q =>
        obtain ⟨b, μ3⟩ := q
        refine ⟨F2, ρ2, δ1, μ', _, wy, s3, hc, ?_⟩
        cases b with
        | error x => simp [hc] at e'
        | ok b =>
          intro bb F3 ρ3 H3 g3 w3 ebb
          subst ebb
          cases bb with
          | false =>
            simp only [hc] at e'
            exact ⟨F3, ρ3, μ3, (g'.trans gy).trans g3, w3, e'⟩
          | true =>
            simp only [hc] at e'
            simp only [if_true]
            cases hf : fe δ1 μ3 with
            | none => simp [hf] at e'
            | some q =>
              obtain ⟨y, μ4⟩ := q
              refine ⟨F3, ρ3, δ1, μ3, _, w3, s3.mono g3, hf, ?_⟩
              cases y with
              | error x => simp [hf] at e'
              | ok y =>
                intro vy F4 ρ4 H4 g4 w4 ry
                simp only [hf] at e'
                have gall : Gr F1 F4 (ρ1 ++ [Dn]) ρ4 := ((g'.trans gy).trans g3).trans g4
                have nD4 : ρ4[μ1.length]? = some Dn := gall.at (by rw [← w1.len]; simp)
                split at e'
                · rename_i acc hacc
                  split at e'
                  · rename_i hlen
                    obtain ⟨h0, vs, h1, h2⟩ := w4.cell _ _ _ nD4 hacc
                    refine ⟨vs, h1, by rw [h2.len]; exact hlen, F4, ρ4, _, gall, w4.setC nD4 h0 (show CellOk G F4 ρ4 _ Dn (.lst (acc ++ [y])) from ⟨h0, vs ++ [vy], upd_same, h2.app (.cons ry .nil)⟩), e'⟩
                  · cases e'
                · cases e'
  · have hi' : items.length ≤ i := by omega
    refine .inl ⟨(wk F' ρ' μ' H' (g2.trans g') w' i).1 hi', ?_⟩
    rw [List.drop_eq_nil_of_le hi'] at e'
    cases e'
    exact p1 _ F' ρ' H' (g2.trans g') w' (.c nD)
theorem z_lc (hc : X.calm = true) (hN : X.N.Nodup) (hi : PI X tg iter (zI G W fi)) (ok : BlkOk X.N X.env.scope scope own) (zg : ZG G js t g) (hj : ∀ j ∈ js, j ∈ own.map (·.2))
    (hg : ∀ (s : Shared) (H : Hp) (C : Addr) (cl : List (Str × Addr)) (fp : List Addr), PG (X.blk s H scope (compEnvC scope cl C X.env) fp) tg t)
    (ht : ∀ (s : Shared) (H : Hp) (C : Addr) (cl : List (Str × Addr)) (fp : List Addr), PTs (X.blk s H scope (compEnvC scope cl C X.env) fp) ifs (zT G W0 fc))
    (he : ∀ (s : Shared) (H : Hp) (C : Addr) (cl : List (Str × Addr)) (fp : List Addr), PE (X.blk s H scope (compEnvC scope cl C X.env) fp) elt (zE G W0 fe)) (hs : ∀ x, foldedSetIterable iter X.env x = pure x := by intro _; rfl) :
    PE X (.ListComp elt [⟨tg, iter, ifs, 0⟩] scope pos) (zE G W (fLcC fi (own.map (·.2)) g fc fe)) := peImp (pe_lc hc hN hi ok hg ht he hs) fun _ _ _ q => lc_reads zg hj q
/-- y = [..] on one line: the store is the comprehension's own -/
theorem zs_setLc {f' : Fz Sv} (conv : ∀ σ H Q, zE G W f' σ H Q → zE G W (fLcC fi (own.map (·.2)) g fc fe) σ H Q) {i : Nat} {y : Str} {py : Pos} {spos : Pos} (hc : X.calm = true) (hN : X.N.Nodup) (hy : X.N[i]? = some y) (hyl : X.env.scope.names.lookup y = some .local)
    (hsw : swapsWith (.ListComp elt [⟨tg, iter, ifs, 0⟩] scope pos) (some (.Name y py)) spos.line X.env = pure true) (hi : PI X tg iter (zI G W fi)) (ok : BlkOk X.N X.env.scope scope own) (zg : ZG G js t g) (hj : ∀ j ∈ js, j ∈ own.map (·.2))
    (hg : ∀ (s : Shared) (H : Hp) (C : Addr) (cl : List (Str × Addr)) (fp : List Addr), PG (X.blk s H scope (compEnvC scope cl C X.env) fp) tg t)
    (ht : ∀ (s : Shared) (H : Hp) (C : Addr) (cl : List (Str × Addr)) (fp : List Addr), PTs (X.blk s H scope (compEnvC scope cl C X.env) fp) ifs (zT G W0 fc))
    (he : ∀ (s : Shared) (H : Hp) (C : Addr) (cl : List (Str × Addr)) (fp : List Addr), PE (X.blk s H scope (compEnvC scope cl C X.env) fp) elt (zE G W0 fe)) (hs : ∀ x, foldedSetIterable iter X.env x = pure x := by intro _; rfl) :
    PS X (.Assign [.Name y py] (.ListComp elt [⟨tg, iter, ifs, 0⟩] scope pos) spos) (zS G W (sSet i f')) := psImp (ps_setLc hc hN hy hyl hsw hi ok hg ht he hs) fun D σ H q => by
  obtain ⟨F, ρ, δ, μ, r, w, s, e, p⟩ := q
  have q2 : zE G W f' σ H (fun x H1 => gName i x σ H1 D.nx) := zstepS w s e p fun sa μ1 x F1 ρ1 H1 g1 w1 s1 rx e1 p1 => by
    cases e1
    exact p1.nx rfl w1 (s1.set rx i)
  exact lc_reads zg hj (conv _ _ _ q2)
theorem z_lcV {vs : List Nat} (hc : X.calm = true) (hN : X.N.Nodup) (hi : PI X tg iter (zI G W fi)) (ok : BlkOk X.N X.env.scope scope own) (hv : own.map (·.2) = vs) (zg : ZG G js t g) (hj : ∀ j ∈ js, j ∈ vs)
    (hg : ∀ (s : Shared) (H : Hp) (C : Addr) (cl : List (Str × Addr)) (fp : List Addr), PG (X.blk s H scope (compEnvC scope cl C X.env) fp) tg t)
    (ht : ∀ (s : Shared) (H : Hp) (C : Addr) (cl : List (Str × Addr)) (fp : List Addr), PTs (X.blk s H scope (compEnvC scope cl C X.env) fp) ifs (zT G W0 fc))
    (he : ∀ (s : Shared) (H : Hp) (C : Addr) (cl : List (Str × Addr)) (fp : List Addr), PE (X.blk s H scope (compEnvC scope cl C X.env) fp) elt (zE G W0 fe)) (hs : ∀ x, foldedSetIterable iter X.env x = pure x := by intro _; rfl) :
    PE X (.ListComp elt [⟨tg, iter, ifs, 0⟩] scope pos) (zE G W (fLcC fi vs g fc fe)) := by
  subst hv; exact z_lc hc hN hi ok zg hj hg ht he hs
theorem zs_setLcV {vs : List Nat} {f' : Fz Sv} (conv : ∀ σ H Q, zE G W f' σ H Q → zE G W (fLcC fi vs g fc fe) σ H Q) {i : Nat} {y : Str} {py : Pos} {spos : Pos} (hc : X.calm = true) (hN : X.N.Nodup) (hy : X.N[i]? = some y) (hyl : X.env.scope.names.lookup y = some .local)
    (hsw : swapsWith (.ListComp elt [⟨tg, iter, ifs, 0⟩] scope pos) (some (.Name y py)) spos.line X.env = pure true) (hi : PI X tg iter (zI G W fi)) (ok : BlkOk X.N X.env.scope scope own) (hv : own.map (·.2) = vs) (zg : ZG G js t g) (hj : ∀ j ∈ js, j ∈ vs)
    (hg : ∀ (s : Shared) (H : Hp) (C : Addr) (cl : List (Str × Addr)) (fp : List Addr), PG (X.blk s H scope (compEnvC scope cl C X.env) fp) tg t)
    (ht : ∀ (s : Shared) (H : Hp) (C : Addr) (cl : List (Str × Addr)) (fp : List Addr), PTs (X.blk s H scope (compEnvC scope cl C X.env) fp) ifs (zT G W0 fc))
    (he : ∀ (s : Shared) (H : Hp) (C : Addr) (cl : List (Str × Addr)) (fp : List Addr), PE (X.blk s H scope (compEnvC scope cl C X.env) fp) elt (zE G W0 fe)) (hs : ∀ x, foldedSetIterable iter X.env x = pure x := by intro _; rfl) :
    PS X (.Assign [.Name y py] (.ListComp elt [⟨tg, iter, ifs, 0⟩] scope pos) spos) (zS G W (sSet i f')) := by
  subst hv; exact zs_setLc conv hc hN hy hyl hsw hi ok zg hj hg ht he hs

end
end Z
namespace Z
open PySem PySem.Spec PyProof.Rows L2

theorem orR {X : Cx} {f : Value → Value → Sem Value} {r r' : R2} (h : OpR X f r) (h' : OpR X f r') : OpR X f (fun x y H Q => r x y H Q ∨ r' x y H Q) := fun pins s σ H x y v u Q I rx ry q =>
  q.elim (h pins s σ H x y v u Q I rx ry) (h' pins s σ H x y v u Q I rx ry)
theorem orC {X : Cx} {f : Value} {r r' : List V → Hp → VK → Prop} (h : CallR X f r) (h' : CallR X f r') : CallR X f (fun x H Q => r x H Q ∨ r' x H Q) := fun pins s σ H xs us Q I rx q =>
  q.elim (h pins s σ H xs us Q I rx) (h' pins s σ H xs us Q I rx)
theorem peOr {X : Cx} {e : Expr} {t t' : TE} (h : PE X e t) (h' : PE X e t') : PE X e (fun σ H Q => t σ H Q ∨ t' σ H Q) := ⟨fun pins s σ H Q I q => q.elim (h.run pins s σ H Q I) (h'.run pins s σ H Q I)⟩
theorem rpS {G : Gx} {F : Hp} {x : Str} {s : List Nat} (h : x.cps.toList = s) : Rp G F (.str x) (.str s) := by subst h; exact .str x
theorem lenS (x : Str) : x.length = x.cps.toList.length := by simp [Str.length]

/-! ### a value as it is read -/
def dV (μ : Mu) : Sv → Option D
  | .d x => some x
  | .c n => match μ[n]? with
    | some (.lst xs) => (toDs xs).map D.lst
    | _ => none
def lstV (μ : Mu) : Sv → Option (List Sv)
  | .d (.lst l) => some (l.map Sv.d)
  | .c n => match μ[n]? with
    | some (.lst xs) => some xs
    | _ => none
  | _ => none
@[simp] theorem dV_d (μ : Mu) (x : D) : dV μ (.d x) = some x := rfl
@[simp] theorem lstV_d (μ : Mu) (l : List D) : lstV μ (.d (.lst l)) = some (l.map Sv.d) := rfl
section
variable {G : Gx} {X : Cx} {W : WX} {F : Hp} {ρ : List Addr} {μ : Mu} {H : Hp}
theorem dV_at {v : V} {sv : Sv} {x : D} (w : Wf G F ρ μ H) (r : Rs G F ρ v sv) (h : dV μ sv = some x) : Rp G H v x := by
  cases sv with
  | d y => cases h; cases r with | d r => exact r.mono w.ex
  | c n =>
    cases r with
    | c hr =>
      unfold dV at h
      simp only at h
      split at h
      · rename_i xs hc
        obtain ⟨h0, vs, h1, h2⟩ := w.cell n _ _ hr hc
        cases ht : toDs xs with
        | none => rw [ht] at h; cases h
        | some ds =>
          rw [ht] at h; cases h
          have e := of_toDs ht
          subst e
          exact .lst (SqL.of h1) ((RsL.toD h2).mono w.ex)
      · cases h
theorem lstV_at {v : V} {sv : Sv} {xs : List Sv} (w : Wf G F ρ μ H) (r : Rs G F ρ v sv) (h : lstV μ sv = some xs) : ∃ a vs, v = .ref a ∧ SqL G.K H a vs ∧ RsL G F ρ vs xs := by
  cases sv with
  | d y =>
    cases r with
    | d r =>
      cases r with
      | lst h1 h2 => cases h; exact ⟨_, _, rfl, w.ex.l h1, RsL.ofD h2⟩
      | _ => cases h
  | c n =>
    cases r with
    | c hr =>
      unfold lstV at h
      simp only at h
      split at h
      · rename_i ys hc
        cases h
        obtain ⟨h0, vs, h1, h2⟩ := w.cell n _ _ hr hc
        exact ⟨_, vs, rfl, SqL.of h1, h2⟩
      · cases h

/-! ### data -/
def D.py : D → Option PyData
  | .non => some .none
  | .bl b => some (.bool b)
  | .int i => some (.int i)
  | .str s => some (.str ⟨s.toArray⟩)
  | .lst l => (pys l).map PyData.list
  | .tup l => (pys l).map PyData.tuple
  | .ins _ _ => none
  | .exc _ _ => none
where pys : List D → Option (List PyData)
  | [] => some []
  | x :: r => (D.py x).bind fun p => (pys r).map fun q => p :: q
mutual
theorem py_plain : ∀ (d : D) (p : PyData), d.py = some p → p.plain = true
  | .non, p, h => by simp only [D.py] at h; cases h; rfl
  | .bl b, p, h => by simp only [D.py] at h; cases h; rfl
  | .int i, p, h => by simp only [D.py] at h; cases h; rfl
  | .str s, p, h => by simp only [D.py] at h; cases h; rfl
  | .lst l, p, h => by
    simp only [D.py] at h
    cases hl : D.py.pys l with
    | none => rw [hl] at h; cases h
    | some q => rw [hl] at h; cases h; simp only [PyData.plain]; exact pys_plain l q hl
  | .tup l, p, h => by
    simp only [D.py] at h
    cases hl : D.py.pys l with
    | none => rw [hl] at h; cases h
    | some q => rw [hl] at h; cases h; simp only [PyData.plain]; exact pys_plain l q hl
  | .ins _ _, p, h => by simp only [D.py] at h; cases h
  | .exc _ _, p, h => by simp only [D.py] at h; cases h
theorem pys_plain : ∀ (d : List D) (p : List PyData), D.py.pys d = some p → PyData.plainAll p = true
  | [], p, h => by simp only [D.py.pys] at h; cases h; rfl
  | x :: r, p, h => by
    simp only [D.py.pys] at h
    cases hx : D.py x with
    | none => rw [hx] at h; cases h
    | some q =>
      rw [hx] at h
      cases hr : D.py.pys r with
      | none => rw [hr] at h; cases h
      | some qs =>
        rw [hr] at h; cases h
        simp only [PyData.plainAll, py_plain x q hx, pys_plain r qs hr, Bool.and_self]
end
mutual
theorem py_dp : ∀ {v : V} {d : D} {p : PyData}, Rp G H v d → d.py = some p → Dp G.K H v p
  | _, _, p, .non, h => by simp only [D.py] at h; cases h; exact .non
  | _, _, p, .bl b, h => by simp only [D.py] at h; cases h; exact .bl b
  | _, _, p, .int i, h => by simp only [D.py] at h; cases h; exact .int i
  | _, _, p, .str x, h => by simp only [D.py] at h; cases h; exact .str x
  | _, _, p, .lst (ds := l) h1 h2, h => by
    simp only [D.py] at h
    cases hl : D.py.pys l with
    | none => rw [hl] at h; cases h
    | some q => rw [hl] at h; cases h; exact .lst h1 (pys_dp h2 hl)
  | _, _, p, .tup (ds := l) h1 h2, h => by
    simp only [D.py] at h
    cases hl : D.py.pys l with
    | none => rw [hl] at h; cases h
    | some q => rw [hl] at h; cases h; exact .tup h1 (pys_dp h2 hl)
  | _, _, p, .ins _ _, h => by simp only [D.py] at h; cases h
  | _, _, p, .exc0 _, h => by simp only [D.py] at h; cases h
  | _, _, p, .excD _ _ _, h => by simp only [D.py] at h; cases h
theorem pys_dp : ∀ {v : List V} {d : List D} {p : List PyData}, RpL G H v d → D.py.pys d = some p → DpAll G.K H v p
  | _, _, p, .nil, h => by simp only [D.py.pys] at h; cases h; exact .nil
  | _, _, p, .cons (d := x) (ds := r) h1 h2, h => by
    simp only [D.py.pys] at h
    cases hx : D.py x with
    | none => rw [hx] at h; cases h
    | some q =>
      rw [hx] at h
      cases hr : D.py.pys r with
      | none => rw [hr] at h; cases h
      | some qs => rw [hr] at h; cases h; exact .cons (py_dp h1 hx) (pys_dp h2 hr)
end
/-- a == b on trees; none where it isn't told -/
def eqD (a b : D) : Option Bool := a.py.bind fun p => b.py.bind fun q => if min p.depth q.depth ≤ 60 then some (PyData.eqv p q) else none
def rEqP (K : PySem.W.Frag) : R2 := fun x y H Q => ∃ d e, Dp K H x d ∧ Dp K H y e ∧ d.plain = true ∧ e.plain = true ∧ min d.depth e.depth ≤ 60 ∧ Q (.bl (PyData.eqv d e)) H
def rNeP (K : PySem.W.Frag) : R2 := fun x y H Q => ∃ d e, Dp K H x d ∧ Dp K H y e ∧ d.plain = true ∧ e.plain = true ∧ min d.depth e.depth ≤ 60 ∧ Q (.bl (!PyData.eqv d e)) H
theorem op_eqP (hu : X.A.units + 64 < cLine) : OpR X (compareOp .Eq) (rEqP X.K) := by
  intro pins s σ H x y v u Q I rx ry h
  obtain ⟨d, e, hd, he, sd, se, hm, q⟩ := h
  obtain ⟨as, r1⟩ := Dp.reads I d x v hd rx
  obtain ⟨bs, r2⟩ := Dp.reads I e y u he ry
  exact SeqAt.eq_plain r1 r2 sd se (by omega) ⟨.bl _, H, I, rfl, q⟩
theorem op_neP (hu : X.A.units + 64 < cLine) : OpR X (compareOp .NotEq) (rNeP X.K) := by
  intro pins s σ H x y v u Q I rx ry h
  obtain ⟨d, e, hd, he, sd, se, hm, q⟩ := h
  obtain ⟨as, r1⟩ := Dp.reads I d x v hd rx
  obtain ⟨bs, r2⟩ := Dp.reads I e y u he ry
  exact SeqAt.ne_plain r1 r2 sd se (by omega) ⟨.bl _, H, I, rfl, q⟩
end
end Z
namespace Z
open PySem PySem.Spec PyProof.Rows L2
abbrev okz (d : D) (μ : Mu) : Rz Sv := some (.ok (.d d), μ)
theorem szl : sizeLine = 16777216 := sizeLine_eq
section
variable {G : Gx} {X : Cx} {W : WX} {F : Hp} {ρ : List Addr} {μ : Mu} {H : Hp}

/-! ### lists that are read, joined -/
def rCatR (K : PySem.W.Frag) : R2 := fun x y H Q => ∃ l b xs zs, x = .ref l ∧ y = .ref b ∧ SqL K H l xs ∧ SqL K H b zs ∧ xs.length + zs.length ≤ sizeLine ∧ ∀ p, H p = none → Q (.ref p) (upd H p (.lst (xs ++ zs)))
theorem op_catR : OpR X (binaryOp .Add) (rCatR X.K) := by
  intro pins s σ H x y v u Q I rx ry h
  obtain ⟨l, b, xs, zs, rfl, rfl, hH, hB, hz, q⟩ := h
  cases rx; cases ry
  obtain ⟨its, r, p1, _⟩ := I.list hH
  obtain ⟨its2, r2, p2, _⟩ := I.list hB
  have l1 := r.length
  have l2 := r2.length
  obtain ⟨⟨c1, d1, dt1, sl1⟩, ho1, hc1, n1, hd1⟩ := p1.isList
  obtain ⟨⟨c2, d2, dt2, sl2⟩, ho2, hc2, n2, hd2⟩ := p2.isList
  simp only at hc1 hd1 hc2 hd2
  subst hc1 hd1 hc2 hd2
  refine concat_meets ⟨_, ho1, rfl⟩ ⟨_, ho2, rfl⟩ noFill_list_add seq_list_add PySem.F.slot_list_add PySem.F.entry_list_add (PySem.F.args_list_add_2 _ _) (list_addW l b its.toArray its2.toArray n1 n2 d1 d2 sl1 sl2 (by rw [List.size_toArray, List.size_toArray]; omega)) ⟨ho1, ho2, ?_⟩
  have ea : its.toArray ++ its2.toArray = (its ++ its2).toArray := by simp
  rw [ea]
  exact ⟨.ref _, _, I.lnew (t' := s.toks) (r.append r2) (by rw [List.length_append]; omega), rfl, q _ I.fresh⟩

/-! ### + -/
def catL (μ : Mu) (a b : Sv) : Option (List D) := match lstV μ a, lstV μ b with
  | some xs, some ys => toDs (xs ++ ys)
  | _, _ => none
def oAdd : Op2 := fun a b μ => match a, b with
  | .d (.int i), .d (.int j) => okz (.int (i + j)) μ
  | .d (.int i), .d (.bl k) => okz (.int (i + b2i k)) μ
  | .d (.str a), .d (.str b) => if a.length + b.length ≤ 16777216 then okz (.str (a ++ b)) μ else none
  | .d (.tup a), .d (.tup b) => if a = [] then none else if a.length + b.length ≤ 16777216 then okz (.tup (a ++ b)) μ else none
  | a, b => match catL μ a b with
    | some l => if l.length ≤ 16777216 then okz (.lst l) μ else none
    | none => none
def rAddZ (K : PySem.W.Frag) : R2 := fun x y H Q => (((rI0 fun i j => .int (i + j)) x y H Q ∨ (∃ i k, x = .int i ∧ y = .bl k ∧ Q (.int (i + b2i k)) H)) ∨ ((∃ i j, x = .str i ∧ y = .str j ∧ i.length + j.length ≤ sizeLine ∧ Q (.str (i ++ j)) H) ∨ rCatT K x y H Q)) ∨ rCatR K x y H Q
theorem op_addZ : OpR X (binaryOp .Add) (rAddZ X.K) := orR (orR (orR op_add op_add_ib) (orR op_add_str op_catT)) op_catR
theorem so_add (hK : G.K = X.K) : SOp2 G W (rAddZ X.K) oAdd := by
  intro F ρ μ H σ x y a b rr Q w rx ry h p
  unfold oAdd at h
  split at h
  · cases h; cases rx with | d rx => cases rx; cases ry with | d ry => cases ry; exact .inl (.inl (.inl ⟨_, _, rfl, rfl, p.ok w (.d (.int _))⟩))
  · cases h; cases rx with | d rx => cases rx; cases ry with | d ry => cases ry; exact .inl (.inl (.inr ⟨_, _, rfl, rfl, p.ok w (.d (.int _))⟩))
  · split at h
    · cases h
      rename_i hl
      cases rx with | d rx => cases rx; cases ry with | d ry => cases ry; exact .inl (.inr (.inl ⟨_, _, rfl, rfl, by rw [lenS, lenS, szl]; exact hl, p.ok w (.d (rpS (TL.tl_append _ _)))⟩))
    · cases h
  · split at h
    · cases h
    · rename_i ha
      cases rx with
      | d rx =>
        cases ry with
        | d ry =>
          have rx0 := rx
          cases rx with
          | tup h1 h2 =>
            cases ry with
            | tup h3 h4 =>
              have t1 := w.ex.t h1
              have t2 := w.ex.t h3
              rw [hK] at t1 t2
              have n1 := h2.len
              have n2 := h4.len
              refine .inl (.inr (.inr ⟨_, _, _, _, rfl, rfl, t1, t2, fun z => ha (by subst z; cases h2; rfl), ?_⟩))
              split at h
              · rename_i hl
                cases h
                refine ⟨by rw [n1, n2, szl]; exact hl, fun z => ?_, fun _ q hq => ?_⟩
                · subst z
                  cases h4
                  rw [List.append_nil] at p
                  exact p.ok w (.d rx0)
                · obtain ⟨w2, g2⟩ := w.newD hq (.tup _)
                  exact p _ _ _ _ g2 w2 (.d (.tup (SqT.of upd_same) (RpL.mono g2.f (by
                    have := (RsL.ofD (ρ := ρ) h2).app (RsL.ofD h4)
                    rw [← List.map_append] at this
                    exact RsL.toD this))))
              · cases h
  · split at h
    · rename_i l hc
      split at h
      · rename_i hl
        cases h
        unfold catL at hc
        split at hc
        · rename_i xs ys h1 h2
          obtain ⟨ax, vs, rfl, r1, s1⟩ := lstV_at w rx h1
          obtain ⟨ay, ws, rfl, r2, s2⟩ := lstV_at w ry h2
          have e := of_toDs hc
          have ss := s1.app s2
          rw [e] at ss
          refine .inr ⟨_, _, _, _, rfl, rfl, (by rw [← hK]; exact r1), (by rw [← hK]; exact r2), ?_, fun q hq => ?_⟩
          · have := ss.len
            rw [List.length_append, List.length_map] at this
            rw [this, szl]; exact hl
          · obtain ⟨w2, g2⟩ := w.newD hq (.lst (vs ++ ws))
            exact p _ _ _ _ g2 w2 (.d (.lst (SqL.of upd_same) ((RsL.toD ss).mono g2.f)))
        · cases hc
      · cases h
    · cases h
end
end Z
namespace Z
open PySem PySem.Spec PyProof.Rows L2
section
variable {G : Gx} {X : Cx} {W : WX} {F : Hp} {ρ : List Addr} {μ : Mu} {H : Hp}
/-! ### whole numbers -/
def oII (C : Int → Int → Bool) (g : Int → Int → D) : Op2 := fun a b μ => match a, b with
  | .d (.int i), .d (.int j) => if C i j = true then okz (g i j) μ else none
  | _, _ => none
theorem so_ii {C : Int → Int → Bool} {g : Int → Int → D} {C' : Int → Int → Prop} {g' : Int → Int → V} (hC : ∀ i j, C i j = true → C' i j) (hg : ∀ F i j, Rp G F (g' i j) (g i j)) : SOp2 G W (rI C' g') (oII C g) := by
  intro F ρ μ H σ x y a b rr Q w rx ry h p
  unfold oII at h
  split at h
  · split at h
    · rename_i hc
      cases h; cases rx with | d rx => cases rx; cases ry with | d ry => cases ry; exact ⟨_, _, rfl, rfl, hC _ _ hc, p.ok w (.d (hg _ _ _))⟩
    · cases h
  · cases h
def oII0 (g : Int → Int → D) : Op2 := fun a b μ => match a, b with
  | .d (.int i), .d (.int j) => okz (g i j) μ
  | _, _ => none
theorem so_ii0 {g : Int → Int → D} {g' : Int → Int → V} (hg : ∀ F i j, Rp G F (g' i j) (g i j)) : SOp2 G W (rI0 g') (oII0 g) := by
  intro F ρ μ H σ x y a b rr Q w rx ry h p
  unfold oII0 at h
  split at h
  · cases h; cases rx with | d rx => cases rx; cases ry with | d ry => cases ry; exact ⟨_, _, rfl, rfl, p.ok w (.d (hg _ _ _))⟩
  · cases h
def oSub : Op2 := oII0 fun i j => .int (i - j)
theorem so_sub : SOp2 G W (rI0 fun i j => .int (i - j)) oSub := so_ii0 fun _ _ _ => .int _
def oDiv : Op2 := oII (fun i j => decide (0 < j ∧ j < 1073741824)) fun i j => .int (i / j)
theorem so_div : SOp2 G W (rI CDiv fun i j => .int (i / j)) oDiv := so_ii (fun i j h => (of_decide_eq_true h : 0 < j ∧ j < 1073741824)) fun _ _ _ => .int _
def oMod : Op2 := oII (fun i j => decide (0 < j)) fun i j => .int (i % j)
theorem so_mod : SOp2 G W (rI (fun _ j => 0 < j) fun i j => .int (i % j)) oMod := so_ii (fun i j h => of_decide_eq_true h) fun _ _ _ => .int _
def oPow : Op2 := oII (fun i j => decide (0 ≤ j ∧ j ≤ 1000000 ∧ i.natAbs < 2 ^ 64)) fun i j => .int (i ^ j.toNat)
theorem so_pow : SOp2 G W (rI CPow fun i j => .int (i ^ j.toNat)) oPow := so_ii (fun i j h => (of_decide_eq_true h : 0 ≤ j ∧ j ≤ 1000000 ∧ i.natAbs < 2 ^ 64)) fun _ _ _ => .int _
def oMulI : Op2 := oII (fun i j => decide ((-(2 ^ 64) < i ∧ i < 2 ^ 64) ∨ (-(2 ^ 64) < j ∧ j < 2 ^ 64))) fun i j => .int (i * j)
theorem so_mulI : SOp2 G W (rI CMul fun i j => .int (i * j)) oMulI := so_ii (fun i j h => (of_decide_eq_true h : (-(2 ^ 64) < i ∧ i < 2 ^ 64) ∨ (-(2 ^ 64) < j ∧ j < 2 ^ 64))) fun _ _ _ => .int _
def oLt : Op2 := oII0 fun i j => .bl (decide (i < j))
theorem so_lt : SOp2 G W (rI0 fun i j => .bl (decide (i < j))) oLt := so_ii0 fun _ _ _ => .bl _
def oLe : Op2 := oII0 fun i j => .bl (decide (i ≤ j))
theorem so_le : SOp2 G W (rI0 fun i j => .bl (decide (i ≤ j))) oLe := so_ii0 fun _ _ _ => .bl _
def oGt : Op2 := oII0 fun i j => .bl (decide (i > j))
theorem so_gt : SOp2 G W (rI0 fun i j => .bl (decide (i > j))) oGt := so_ii0 fun _ _ _ => .bl _
def oGe : Op2 := oII0 fun i j => .bl (decide (i ≥ j))
theorem so_ge : SOp2 G W (rI0 fun i j => .bl (decide (i ≥ j))) oGe := so_ii0 fun _ _ _ => .bl _
theorem op_gtZ : OpR X (compareOp .Gt) (rI0 fun i j => .bl (decide (i > j))) := op_gt
theorem op_geZ : OpR X (compareOp .GtE) (rI0 fun i j => .bl (decide (i ≥ j))) := op_ge
theorem op_ltZ : OpR X (compareOp .Lt) (rI0 fun i j => .bl (decide (i < j))) := op_lt
theorem op_leZ : OpR X (compareOp .LtE) (rI0 fun i j => .bl (decide (i ≤ j))) := op_le
/-- -a -/
def SOp1 (G : Gx) (W : WX) (r : V → Hp → VK → Prop) (o : Op1) : Prop := ∀ (F : Hp) (ρ : List Addr) (μ : Mu) (H : Hp) (σ : L2.St) (x : V) (a : Sv) (rr : Except Exn Sv × Mu) (Q : VK),
  Wf G F ρ μ H → Rs G F ρ x a → o a μ = some rr → Post G W σ F ρ (Rs G) Q rr → r x H Q
def oNeg : Op1 := fun a μ => match a with
  | .d (.int i) => okz (.int (-i)) μ
  | _ => none
theorem z_neg {a : Expr} {fa : Fz Sv} {pos : Pos} (ha : PE X a (zE G W fa)) : PE X (.UnaryOp .USub a pos) (zE G W (fOp1 oNeg fa)) := peImp (pe_un un_neg ha) fun σ H Q q => by
  obtain ⟨F, ρ, δ, μ, rr, w, s, e, p⟩ := q
  refine zstep w s e p fun sa μ1 x F1 ρ1 H1 g1 w1 s1 rx e1 p1 => ?_
  unfold oNeg at e1
  split at e1
  · cases e1; cases rx with | d rx => cases rx; exact ⟨_, rfl, p1.ok w1 (.d (.int _))⟩
  · cases e1

/-! ### ==, !=, is, in -/
def oEq : Op2 := fun a b μ => match dV μ a, dV μ b with
  | some x, some y => match eqD x y with
    | some r => okz (.bl r) μ
    | none => none
  | _, _ => none
def oNe : Op2 := fun a b μ => match dV μ a, dV μ b with
  | some x, some y => match eqD x y with
    | some r => okz (.bl (!r)) μ
    | none => none
  | _, _ => none
theorem eqD_some {x y : D} {r : Bool} (h : eqD x y = some r) : ∃ p q, x.py = some p ∧ y.py = some q ∧ min p.depth q.depth ≤ 60 ∧ r = PyData.eqv p q := by
  unfold eqD at h
  cases hx : x.py with
  | none => rw [hx] at h; cases h
  | some p =>
    cases hy : y.py with
    | none => rw [hx, hy] at h; cases h
    | some q =>
      rw [hx, hy] at h
      simp only [Option.bind_some] at h
      split at h
      · rename_i hm
        cases h
        exact ⟨p, q, rfl, rfl, hm, rfl⟩
      · cases h
theorem so_eq (hK : G.K = X.K) : SOp2 G W (rEqP X.K) oEq := by
  intro F ρ μ H σ x y a b rr Q w rx ry h p
  unfold oEq at h
  split at h
  · rename_i dx dy h1 h2
    split at h
    · rename_i r hr
      cases h
      obtain ⟨p1, q1, e1, e2, hm, rfl⟩ := eqD_some hr
      rw [← hK]
      exact ⟨p1, q1, py_dp (dV_at w rx h1) e1, py_dp (dV_at w ry h2) e2, py_plain _ _ e1, py_plain _ _ e2, hm, p.ok w (.d (.bl _))⟩
    · cases h
  · cases h
theorem so_ne (hK : G.K = X.K) : SOp2 G W (rNeP X.K) oNe := by
  intro F ρ μ H σ x y a b rr Q w rx ry h p
  unfold oNe at h
  split at h
  · rename_i dx dy h1 h2
    split at h
    · rename_i r hr
      cases h
      obtain ⟨p1, q1, e1, e2, hm, rfl⟩ := eqD_some hr
      rw [← hK]
      exact ⟨p1, q1, py_dp (dV_at w rx h1) e1, py_dp (dV_at w ry h2) e2, py_plain _ _ e1, py_plain _ _ e2, hm, p.ok w (.d (.bl _))⟩
    · cases h
  · cases h
def isNon : Sv → Bool
  | .d .non => true
  | _ => false
theorem isNon_v {v : V} {a : Sv} (r : Rs G F ρ v a) : decide (v = .non) = isNon a := by
  cases r with
  | d r => cases r <;> rfl
  | c h => rfl
def oIsN : Op2 := fun a b μ => match b with
  | .d .non => okz (.bl (isNon a)) μ
  | _ => none
def oNotN : Op2 := fun a b μ => match b with
  | .d .non => okz (.bl (!isNon a)) μ
  | _ => none
theorem so_isN : SOp2 G W (fun x y H Q => y = .non ∧ Q (.bl (decide (x = .non))) H) oIsN := by
  intro F ρ μ H σ x y a b rr Q w rx ry h p
  unfold oIsN at h
  split at h
  · cases h; cases ry with | d ry => cases ry; exact ⟨rfl, by rw [isNon_v rx]; exact p.ok w (.d (.bl _))⟩
  · cases h
theorem so_notN : SOp2 G W (fun x y H Q => y = .non ∧ Q (.bl (!decide (x = .non))) H) oNotN := by
  intro F ρ μ H σ x y a b rr Q w rx ry h p
  unfold oNotN at h
  split at h
  · cases h; cases ry with | d ry => cases ry; exact ⟨rfl, by rw [isNon_v rx]; exact p.ok w (.d (.bl _))⟩
  · cases h
/-- x in a list, a tuple, a sign in a text -/
def inD (x y : D) : Option Bool := match x, y with
  | .str [c], .str s => some (decide (c ∈ s))
  | x, .lst l => x.py.bind fun p => (D.py.pys l).bind fun q => if min (PyData.depthAll q) p.depth ≤ 60 then some (q.any fun z => PyData.eqv z p) else none
  | x, .tup l => x.py.bind fun p => (D.py.pys l).bind fun q => if min (PyData.depthAll q) p.depth ≤ 60 then some (q.any fun z => PyData.eqv z p) else none
  | _, _ => none
def rInP (K : PySem.W.Frag) (neg : Bool) : R2 := fun x y H Q => (∃ (c : Nat) (z : Str), x = .str ⟨#[c]⟩ ∧ y = .str z ∧ Q (.bl (if neg then !decide (c ∈ z.cps.toList) else decide (c ∈ z.cps.toList))) H) ∨
  (∃ d ds, Dp K H x d ∧ (Dp K H y (.list ds) ∨ Dp K H y (.tuple ds)) ∧ d.plain = true ∧ PyData.plainAll ds = true ∧ min (PyData.depthAll ds) d.depth ≤ 60 ∧ Q (.bl (if neg then !(ds.any fun z => PyData.eqv z d) else ds.any fun z => PyData.eqv z d)) H)
theorem op_inP (hu : X.A.units + 64 < cLine) : OpR X (compareOp .In) (rInP X.K false) := by
  intro pins s σ H x y v u Q I rx ry h
  rcases h with h | ⟨d, ds, hd, he, sd, se, hm, q⟩
  · exact op_in_sign pins s σ H x y v u Q I rx ry h
  · obtain ⟨as, r1⟩ := Dp.reads I d x v hd rx
    rcases he with he | he
    · obtain ⟨bs, r2⟩ := Dp.reads I _ y u he ry
      exact SeqAt.in_list_data r2 r1 se sd (by omega) ⟨.bl _, H, I, rfl, q⟩
    · obtain ⟨bs, r2⟩ := Dp.reads I _ y u he ry
      exact SeqAt.in_tuple_data r2 r1 se sd (by omega) ⟨.bl _, H, I, rfl, q⟩
theorem op_notInP (hu : X.A.units + 64 < cLine) : OpR X (compareOp .NotIn) (rInP X.K true) := by
  intro pins s σ H x y v u Q I rx ry h
  rcases h with h | ⟨d, ds, hd, he, sd, se, hm, q⟩
  · exact op_notIn_sign pins s σ H x y v u Q I rx ry h
  · obtain ⟨as, r1⟩ := Dp.reads I d x v hd rx
    rcases he with he | he
    · obtain ⟨bs, r2⟩ := Dp.reads I _ y u he ry
      exact SeqAt.notIn_list_data r2 r1 se sd (by omega) ⟨.bl _, H, I, rfl, q⟩
    · obtain ⟨bs, r2⟩ := Dp.reads I _ y u he ry
      exact SeqAt.notIn_tuple_data r2 r1 se sd (by omega) ⟨.bl _, H, I, rfl, q⟩
def oIn : Op2 := fun a b μ => match dV μ a, dV μ b with
  | some x, some y => match inD x y with
    | some r => okz (.bl r) μ
    | none => none
  | _, _ => none
def oNotIn : Op2 := fun a b μ => match dV μ a, dV μ b with
  | some x, some y => match inD x y with
    | some r => okz (.bl (!r)) μ
    | none => none
  | _, _ => none
theorem rp_strE {v : V} {s : List Nat} (r : Rp G F v (.str s)) : ∃ x : Str, v = .str x ∧ x.cps.toList = s := by cases r; exact ⟨_, rfl, rfl⟩
theorem inD_at {x y : V} {dx dy : D} {r : Bool} {neg : Bool} {Q : VK} (rx : Rp G H x dx) (ry : Rp G H y dy) (h : inD dx dy = some r) (q : Q (.bl (if neg then !r else r)) H) : rInP G.K neg x y H Q := by
  unfold inD at h
  split at h
  · cases h
    obtain ⟨x1, rfl, e1⟩ := rp_strE rx
    obtain ⟨y1, rfl, e2⟩ := rp_strE ry
    refine .inl ⟨_, _, ?_, rfl, by rw [e2]; exact q⟩
    congr 1
    exact TL.ext_tl (by rw [TL.tl_mk]; exact e1)
  · rename_i l
    cases hx : dx.py with
    | none => rw [hx] at h; cases h
    | some p =>
      cases hy : D.py.pys l with
      | none => rw [hx, hy] at h; cases h
      | some ps =>
        rw [hx, hy] at h
        simp only [Option.bind_some] at h
        split at h
        · rename_i hm
          cases h
          exact .inr ⟨p, ps, py_dp rx hx, .inl (py_dp ry (by simp only [D.py, hy, Option.map_some])), py_plain _ _ hx, pys_plain _ _ hy, hm, q⟩
        · cases h
  · rename_i l
    cases hx : dx.py with
    | none => rw [hx] at h; cases h
    | some p =>
      cases hy : D.py.pys l with
      | none => rw [hx, hy] at h; cases h
      | some ps =>
        rw [hx, hy] at h
        simp only [Option.bind_some] at h
        split at h
        · rename_i hm
          cases h
          exact .inr ⟨p, ps, py_dp rx hx, .inr (py_dp ry (by simp only [D.py, hy, Option.map_some])), py_plain _ _ hx, pys_plain _ _ hy, hm, q⟩
        · cases h
  · cases h
theorem so_in (hK : G.K = X.K) : SOp2 G W (rInP X.K false) oIn := by
  intro F ρ μ H σ x y a b rr Q w rx ry h p
  unfold oIn at h
  split at h
  · rename_i dx dy h1 h2
    split at h
    · rename_i r hr
      cases h
      rw [← hK]
      exact inD_at (neg := false) (dV_at w rx h1) (dV_at w ry h2) hr (p.ok w (.d (.bl _)))
    · cases h
  · cases h
theorem so_notIn (hK : G.K = X.K) : SOp2 G W (rInP X.K true) oNotIn := by
  intro F ρ μ H σ x y a b rr Q w rx ry h p
  unfold oNotIn at h
  split at h
  · rename_i dx dy h1 h2
    split at h
    · rename_i r hr
      cases h
      rw [← hK]
      exact inD_at (neg := true) (dV_at w rx h1) (dV_at w ry h2) hr (p.ok w (.d (.bl _)))
    · cases h
  · cases h
end
end Z
namespace Z
open PySem PySem.Spec PyProof.Rows L2
section
variable {G : Gx} {X : Cx} {W : WX} {F : Hp} {ρ : List Addr} {μ : Mu} {H : Hp} {a b e : Expr} {es : List Expr} {fa fb : Fz Sv} {fr : Fz (List Sv)} {pos p2 : Pos}
theorem RsL.atI {vs : List V} {xs : List Sv} {i : Int} {y : Sv} (r : RsL G F ρ vs xs) (h : L2.atI xs i = some y) : ∃ v, L2.atI vs i = some v ∧ Rs G F ρ v y := by
  unfold L2.atI at h ⊢
  rw [r.len]
  cases e : ixN xs.length i with
  | none => rw [e] at h; cases h
  | some j => rw [e] at h; exact r.get h
theorem atI_map {α β : Type} (f : α → β) (l : List α) (i : Int) : L2.atI (l.map f) i = (L2.atI l i).map f := by
  unfold L2.atI
  rw [List.length_map]
  cases ixN l.length i with
  | none => rfl
  | some j => simp

/-! ### subscripts -/
def keyOf : Sv → Option Key
  | .d (.int i) => some (.inl i)
  | .d (.str s) => some (.inr ⟨s.toArray⟩)
  | _ => none
def lookK (kvs : List (Key × Sv)) (k : Key) : Option Sv := (kvs.find? fun kv => decide (kv.1 = k)).map (·.2)
theorem keyOf_at {v : V} {y : Sv} {k : Key} (r : Rs G F ρ v y) (h : keyOf y = some k) : v = kV k := by
  unfold keyOf at h
  split at h
  · cases h; cases r with | d r => cases r; rfl
  · cases h; cases r with | d r => cases r; rfl
  · cases h
theorem lookK_at : ∀ {vs : List (Key × V)} {xs : List (Key × Sv)} {k : Key} {y : Sv}, RsK G F ρ vs xs → lookK xs k = some y → ∃ v, valV vs k = some v ∧ Rs G F ρ v y
  | _, _, _, _, .nil, h => by cases h
  | _, _, k, y, .cons (k := k') (v := v) q r, h => by
    unfold lookK at h
    rw [List.find?_cons] at h
    by_cases hk : k' = k
    · simp only [hk, decide_true] at h
      cases h
      exact ⟨v, by rw [valV_pos hk], q⟩
    · simp only [hk, decide_false] at h
      obtain ⟨v', h1, h2⟩ := lookK_at (k := k) (y := y) r h
      exact ⟨v', by rw [valV_neg hk]; exact h1, h2⟩
theorem lookK_none : ∀ {vs : List (Key × V)} {xs : List (Key × Sv)} {k : Key}, RsK G F ρ vs xs → lookK xs k = none → valV vs k = none
  | _, _, _, .nil, _ => rfl
  | _, _, k, .cons (k := k') (v := v) q r, h => by
    unfold lookK at h
    rw [List.find?_cons] at h
    by_cases hk : k' = k
    · simp only [hk, decide_true] at h
      cases h
    · simp only [hk, decide_false] at h
      rw [valV_neg hk]
      exact lookK_none r h
def oIx : Op2 := fun a b μ => match a, b with
  | .d (.str s), .d (.int i) => if s.length ≤ 16777216 then (match L2.atI s i with
    | some c => okz (.str [c]) μ
    | none => none) else none
  | .d (.tup l), .d (.int i) => match L2.atI l i with
    | some x => okz x μ
    | none => none
  | .d (.lst l), .d (.int i) => match L2.atI l i with
    | some x => okz x μ
    | none => none
  | .c n, b => match μ[n]? with
    | some (.lst xs) => match b with
      | .d (.int i) => match L2.atI xs i with
        | some x => some (.ok x, μ)
        | none => none
      | _ => none
    | some (.dct kvs) => match keyOf b with
      | some k => match lookK kvs k with
        | some x => some (.ok x, μ)
        | none => none
      | none => none
    | _ => none
  | _, _ => none
def rIxD : R2 := fun x y H Q => ∃ a v, x = .ref a ∧ DGet H a y (some v) ∧ Q v H
theorem ix_dict (hu : X.A.units + 1 < cLine) : IxR X rIxD := by
  intro value slice pins s σ H x y v u Q I rx ry h hs
  obtain ⟨a, z, rfl, g, q⟩ := h
  obtain rfl : v = Value.ref a := rx
  exact tail_any (dict_typeIs I g) PySem.F.slot_dict_getitem.lookup (d_getItem hu I g ry fun w' s3 I3 rw' => ⟨z, H, I3, rw', q⟩) hs
def rIxZ (K : PySem.W.Frag) : R2 := fun x y H Q => rIx K x y H Q ∨ rIxD x y H Q
theorem ix_Z (hu : X.A.units + 1 < cLine) : IxR X (rIxZ X.K) := ix_seq.or (ix_dict hu)
theorem so_ix (hK : G.K = X.K) : SOp2 G W (rIxZ X.K) oIx := by
  intro F ρ μ H σ x y a b rr Q w rx ry h p
  unfold oIx at h
  split at h
  · split at h
    · rename_i hl
      split at h
      · rename_i c hc
        cases h
        cases rx with | d rx => cases rx; cases ry with | d ry => cases ry; exact .inl (.inr (.inr ⟨_, _, c, rfl, rfl, by rw [lenS, szl]; exact hl, hc, p.ok w (.d (rpS rfl))⟩))
      · cases h
    · cases h
  · split at h
    · rename_i l i x hx
      cases h
      cases rx with
      | d rx => cases rx with
        | tup h1 h2 =>
          cases ry with
          | d ry =>
            cases ry
            obtain ⟨v, hv, rv⟩ := RsL.atI (RsL.ofD (ρ := ρ) h2) (by rw [atI_map, hx]; rfl)
            exact .inl (.inr (.inl ⟨_, _, _, v, rfl, rfl, by rw [← hK]; exact w.ex.t h1, hv, p.ok w rv⟩))
    · cases h
  · split at h
    · rename_i l i x hx
      cases h
      cases rx with
      | d rx => cases rx with
        | lst h1 h2 =>
          cases ry with
          | d ry =>
            cases ry
            obtain ⟨v, hv, rv⟩ := RsL.atI (RsL.ofD (ρ := ρ) h2) (by rw [atI_map, hx]; rfl)
            exact .inl (.inl ⟨_, _, _, v, rfl, rfl, by rw [← hK]; exact w.ex.l h1, hv, p.ok w rv⟩)
    · cases h
  · cases rx with
    | c hr =>
      split at h
      · rename_i xs hxs
        split at h
        · split at h
          · rename_i z hz
            cases h
            cases ry with
            | d ry =>
              cases ry
              obtain ⟨_, vs, h1, h2⟩ := w.cell _ _ _ hr hxs
              obtain ⟨v, hv, rv⟩ := RsL.atI h2 hz
              exact .inl (.inl ⟨_, _, _, v, rfl, rfl, .inl (.inl h1), hv, p.ok w rv⟩)
          · cases h
        · cases h
      · rename_i kvs hk
        split at h
        · rename_i k hkey
          split at h
          · rename_i z hz
            cases h
            obtain ⟨_, vs, h1, h2⟩ := w.cell _ _ _ hr hk
            obtain ⟨v, hv, rv⟩ := lookK_at h2 hz
            refine .inr ⟨_, v, rfl, ?_, p.ok w rv⟩
            rw [keyOf_at ry hkey]
            exact .inl ⟨vs, k, .inl h1, rfl, hv.symm⟩
          · cases h
        · cases h
      · cases h
  · cases h
theorem z_ix (hK : G.K = X.K) (hu : X.A.units + 1 < cLine) (ha : PE X a (zE G W fa)) (hb : PE X b (zE G W fb)) (hs : PlainIx b) : PE X (.Subscript a b pos) (zE G W (fOp2 oIx fa fb)) :=
  peImp (pe_ix (ix_Z hu) ha hb hs) fun _ _ _ q => zop2 (so_ix hK) q

/-! ### slices -/
def cutL {α : Type} (xs : List α) (lo hi : Option Int) : List α := (xs.drop (HT.sIx xs.length 0 lo)).take (HT.sIx xs.length xs.length hi - HT.sIx xs.length 0 lo)
def fNo : Fz (Option Int) := fun _ μ => some (.ok none, μ)
def fPt (fa : Fz Sv) : Fz (Option Int) := fun δ μ => (fa δ μ).bind fun a μ => match a with
  | .d (.int i) => some (.ok (some i), μ)
  | _ => none
theorem zo_no : PO X none (zO G W fNo) := poImp po_none fun σ H Q q => by
  obtain ⟨F, ρ, δ, μ, rr, w, s, e, p⟩ := q
  cases e
  exact p.ok w rfl
theorem zo_pt (h : PE X e (zE G W fa)) : PO X (some e) (zO G W (fPt fa)) := poImp (po_some h) fun σ H Q q => by
  obtain ⟨F, ρ, δ, μ, rr, w, s, e, p⟩ := q
  refine zstep w s e p fun sa μ1 x F1 ρ1 H1 g1 w1 s1 rx e1 p1 => ?_
  split at e1
  · cases e1; cases rx with | d rx => cases rx; exact ⟨_, rfl, p1.ok w1 rfl⟩
  · cases e1
def oSl (x : Sv) (lo hi : Option Int) (μ : Mu) : Rz Sv := match x with
  | .d (.str s) => if s.length ≤ 16777216 then okz (.str (cutL s lo hi)) μ else none
  | .d (.tup l) => if HT.sIx l.length 0 lo = 0 ∧ HT.sIx l.length l.length hi = l.length then none else okz (.tup (cutL l lo hi)) μ
  | x => match lstV μ x with
    | some xs => match toDs (cutL xs lo hi) with
      | some ds => okz (.lst ds) μ
      | none => none
    | none => none
def fSl (fa : Fz Sv) (fl fh : Fz (Option Int)) : Fz Sv := fun δ μ => (fa δ μ).bind fun a μ => (fl δ μ).bind fun lo μ => (fh δ μ).bind fun hi μ => oSl a lo hi μ
theorem RsL.cut {vs : List V} {xs : List Sv} (r : RsL G F ρ vs xs) (lo hi : Option Int) : RsL G F ρ (cutV vs lo hi) (cutL xs lo hi) := by
  unfold cutV cutL
  rw [r.len]
  exact (r.drop _).take _
theorem cutL_map {α β : Type} (f : α → β) (l : List α) (lo hi : Option Int) : cutL (l.map f) lo hi = (cutL l lo hi).map f := by
  unfold cutL
  rw [List.length_map, List.map_take, List.map_drop]
def rSlZ (K : PySem.W.Frag) : V → Option Int → Option Int → Hp → VK → Prop := fun x lo hi H Q => rSlL K x lo hi H Q ∨ (rSlS x lo hi H Q ∨ rSlT K x lo hi H Q)
theorem sl_Z : SlR X (rSlZ X.K) := sl_list.or (sl_str.or sl_tup)
theorem oSl_at (hK : G.K = X.K) {σ : L2.St} {x : V} {a : Sv} {lo hi : Option Int} {rr : Except Exn Sv × Mu} {Q : VK} (w : Wf G F ρ μ H) (rx : Rs G F ρ x a) (h : oSl a lo hi μ = some rr) (p : Post G W σ F ρ (Rs G) Q rr) : rSlZ X.K x lo hi H Q := by
  unfold oSl at h
  split at h
  · split at h
    · rename_i hl
      cases h
      cases rx with | d rx => cases rx; exact .inr (.inl ⟨_, rfl, by rw [lenS, szl]; exact hl, p.ok w (.d (rpS (by unfold cutS cutL; rw [lenS])))⟩)
    · cases h
  · split at h
    · cases h
    · rename_i hn
      cases h
      cases rx with
      | d rx => cases rx with
        | tup h1 h2 =>
          have t1 := w.ex.t h1
          rw [hK] at t1
          refine .inr (.inr ⟨_, _, rfl, t1, by rw [h2.len]; exact hn, fun q hq => ?_⟩)
          obtain ⟨w2, g2⟩ := w.newD hq (.tup (cutV _ lo hi))
          have rr := (RsL.ofD (ρ := ρ) h2).cut lo hi
          rw [cutL_map] at rr
          exact p _ _ _ _ g2 w2 (.d (.tup (SqT.of upd_same) ((RsL.toD rr).mono g2.f)))
  · split at h
    · rename_i xs hx
      split at h
      · rename_i ds hd
        cases h
        obtain ⟨ax, vs, rfl, r1, s1⟩ := lstV_at w rx hx
        refine .inl ⟨_, _, rfl, by rw [← hK]; exact r1, fun q hq => ?_⟩
        obtain ⟨w2, g2⟩ := w.newD hq (.lst (cutV vs lo hi))
        have rr := s1.cut lo hi
        rw [of_toDs hd] at rr
        exact p _ _ _ _ g2 w2 (.d (.lst (SqL.of upd_same) ((RsL.toD rr).mono g2.f)))
      · cases h
    · cases h
theorem z_sl (hK : G.K = X.K) {lo hi : Option Expr} {fl fh : Fz (Option Int)} (ha : PE X a (zE G W fa)) (hl : PO X lo (zO G W fl)) (hh : PO X hi (zO G W fh)) : PE X (.Subscript a (.Slice lo hi none p2) pos) (zE G W (fSl fa fl fh)) := peImp (pe_slice sl_Z ha hl hh) fun σ H Q q => by
  obtain ⟨F, ρ, δ, μ, rr, w, s, e, p⟩ := q
  refine zstep w s e p fun sa μ1 x F1 ρ1 H1 g1 w1 s1 rx e1 p1 => ?_
  refine zstep w1 s1 e1 p1 fun lo μ2 lo' F2 ρ2 H2 g2 w2 s2 rlo e2 p2 => ?_
  refine zstep w2 s2 e2 p2 fun hi μ3 hi' F3 ρ3 H3 g3 w3 s3 rhi e3 p3 => ?_
  subst rlo rhi
  exact oSl_at hK w3 (rx.mono (g2.trans g3)) e3 p3

/-! ### displays -/
def fLst (fr : Fz (List Sv)) : Fz Sv := fun δ μ => (fr δ μ).bind fun as μ => match toDs as with
  | some ds => if ds.length ≤ 16777216 then okz (.lst ds) μ else none
  | none => none
def fTup (fr : Fz (List Sv)) : Fz Sv := fun δ μ => (fr δ μ).bind fun as μ => match toDs as with
  | some ds => if ds.length ≤ 16777216 then okz (.tup ds) μ else none
  | none => none
/-- a list that will be changed -/
def fLstC (fr : Fz (List Sv)) : Fz Sv := fun δ μ => (fr δ μ).bind fun as μ => if as.length ≤ 16777216 then some (.ok (.c μ.length), μ ++ [.lst as]) else none
theorem z_lst (ha : PA X es (zA G W fr)) : PE X (.List es pos) (zE G W (fLst fr)) := peImp (pe_lst ha) fun σ H Q q => by
  obtain ⟨F, ρ, δ, μ, rr, w, s, e, p⟩ := q
  refine zstep w s e p fun sa μ1 x F1 ρ1 H1 g1 w1 s1 rx e1 p1 => ?_
  split at e1
  · rename_i ds hd
    split at e1
    · rename_i hl
      cases e1
      rw [of_toDs hd] at rx
      have r := RsL.toD rx
      refine ⟨by rw [r.len, szl]; exact hl, fun q hq => ?_⟩
      obtain ⟨w2, g2⟩ := w1.newD hq (.lst x)
      exact p1 _ _ _ _ g2 w2 (.d (.lst (SqL.of upd_same) (r.mono g2.f)))
    · cases e1
  · cases e1
theorem z_tup (ha : PA X es (zA G W fr)) {k} : PE X (.Tuple es k pos) (zE G W (fTup fr)) := peImp (pe_tup ha) fun σ H Q q => by
  obtain ⟨F, ρ, δ, μ, rr, w, s, e, p⟩ := q
  refine zstep w s e p fun sa μ1 x F1 ρ1 H1 g1 w1 s1 rx e1 p1 => ?_
  split at e1
  · rename_i ds hd
    split at e1
    · rename_i hl
      cases e1
      rw [of_toDs hd] at rx
      have r := RsL.toD rx
      refine ⟨by rw [r.len, szl]; exact hl, fun q hq => ?_⟩
      obtain ⟨w2, g2⟩ := w1.newD hq (.tup x)
      exact p1 _ _ _ _ g2 w2 (.d (.tup (SqT.of upd_same) (r.mono g2.f)))
    · cases e1
  · cases e1
theorem z_lstC (ha : PA X es (zA G W fr)) : PE X (.List es pos) (zE G W (fLstC fr)) := peImp (pe_lst ha) fun σ H Q q => by
  obtain ⟨F, ρ, δ, μ, rr, w, s, e, p⟩ := q
  refine zstep w s e p fun sa μ1 x F1 ρ1 H1 g1 w1 s1 rx e1 p1 => ?_
  split at e1
  · rename_i hl
    cases e1
    refine ⟨by rw [rx.len, szl]; exact hl, fun q hq => ?_⟩
    have g0 : Gr F1 F1 ρ1 (ρ1 ++ [q]) := ⟨Ex.refl F1, [q], rfl⟩
    obtain ⟨w2, g2⟩ := w1.newC hq (o := .lst x) (c := .lst sa) ⟨w1.ex.none hq, x, upd_same, rx.mono g0⟩
    exact p1 _ _ _ _ g2 w2 (.c (by rw [← w1.len]; simp))
  · cases e1
end
end Z
namespace Z
open PySem PySem.Spec PyProof.Rows L2
section
variable {G : Gx} {X : Cx} {W : WX} {F : Hp} {ρ : List Addr} {μ : Mu} {H : Hp} {a b e o : Expr} {es : List Expr} {fa fb fo : Fz Sv} {fr : Fz (List Sv)} {pos p2 p apos : Pos} {x : Str} {id T : String}
/-! ### calls of what is built in -/
def SOpn (G : Gx) (W : WX) (r : List V → Hp → VK → Prop) (o : Opn) : Prop := ∀ (F : Hp) (ρ : List Addr) (μ : Mu) (H : Hp) (σ : L2.St) (vs : List V) (as : List Sv) (rr : Except Exn Sv × Mu) (Q : VK),
  Wf G F ρ μ H → RsL G F ρ vs as → o as μ = some rr → Post G W σ F ρ (Rs G) Q rr → r vs H Q
theorem zopn {r : List V → Hp → VK → Prop} {o : Opn} (so : SOpn G W r o) {σ : L2.St} {H : Hp} {Q : VK} (q : zE G W (fOpn o fr) σ H Q) : tCB r (zA G W fr) σ H Q := by
  obtain ⟨F, ρ, δ, μ, rr, w, s, e, p⟩ := q
  refine zstep w s e p fun sa μ1 x F1 ρ1 H1 g1 w1 s1 rx e1 p1 => ?_
  exact so F1 ρ1 μ1 H1 σ x sa rr Q w1 rx e1 p1
theorem z_blt {r : List V → Hp → VK → Prop} {o : Opn} (hc : CallR X (.builtin id) r) (so : SOpn G W r o) (hg : Gl X x) (hm : X.mg x = none) (hv : bootBuiltins x = some (.builtin id)) (ha : PA X (e :: es) (zA G W fr)) (hn : x ≠ "__name__" := by decide) (hdb : (x == ("__debug__" : Str)) = false := by decide)
    (he : starEach (e :: es) X.env = (false, eval e X.env) :: starEach es X.env := by rfl) (hpl : (backTo pos (starEach es X.env)).any (·.1) = false := by rfl) : PE X (.Call (.Name x p) (e :: es) [] pos) (zE G W (fOpn o fr)) :=
  peImp (pe_callB hc hg hm hv ha hn hdb he hpl) fun _ _ _ q => zopn so q
theorem z_bty {r : List V → Hp → VK → Prop} {o : Opn} (hc : CallR X (.type T) r) (so : SOpn G W r o) (hg : Gl X x) (hm : X.mg x = none) (hv : bootBuiltins x = some (.type T)) (ha : PA X (e :: es) (zA G W fr)) (hn : x ≠ "__name__" := by decide) (hdb : (x == ("__debug__" : Str)) = false := by decide)
    (he : starEach (e :: es) X.env = (false, eval e X.env) :: starEach es X.env := by rfl) (hpl : (backTo pos (starEach es X.env)).any (·.1) = false := by rfl) : PE X (.Call (.Name x p) (e :: es) [] pos) (zE G W (fOpn o fr)) :=
  peImp (pe_callTy hc hg hm hv ha hn hdb he hpl) fun _ _ _ q => zopn so q
/-- len -/
def bLen : Opn := fun as μ => match as with
  | [.d (.str s)] => if s.length ≤ 16777216 then okz (.int s.length) μ else none
  | [.d (.tup l)] => okz (.int l.length) μ
  | [.d (.lst l)] => okz (.int l.length) μ
  | [.c n] => match μ[n]? with
    | some (.lst xs) => okz (.int xs.length) μ
    | some (.dct kvs) => okz (.int kvs.length) μ
    | _ => none
  | _ => none
def rLenZ (K : PySem.W.Frag) : List V → Hp → VK → Prop := fun xs H Q => ((∃ p ys, xs = [.ref p] ∧ (SqL K H p ys ∨ SqT K H p ys) ∧ Q (.int ys.length) H) ∨ (∃ z, xs = [.str z] ∧ z.length ≤ sizeLine ∧ Q (.int z.length) H)) ∨ (∃ d kvs, xs = [.ref d] ∧ H d = some (.dK kvs) ∧ Q (.int kvs.length) H)
theorem call_lenDz : CallR X (.builtin "len") (fun xs H Q => ∃ d kvs, xs = [.ref d] ∧ H d = some (.dK kvs) ∧ Q (.int kvs.length) H) := fun pins s σ H xs us Q I r h => by
  obtain ⟨d, kvs, rfl, hd, q⟩ := h
  exact call_lenD pins s σ H _ us Q I r ⟨d, kvs, rfl, hd, q⟩
theorem call_lenZ : CallR X (.builtin "len") (rLenZ X.K) := orC (orC call_len_seq call_len_str) call_lenDz
theorem RsK.len {vs : List (Key × V)} {xs : List (Key × Sv)} (r : RsK G F ρ vs xs) : vs.length = xs.length := by
  induction r with
  | nil => rfl
  | cons _ _ ih => simp [ih]
theorem so_len (hK : G.K = X.K) : SOpn G W (rLenZ X.K) bLen := by
  intro F ρ μ H σ vs as rr Q w r h p
  unfold bLen at h
  split at h
  · split at h
    · rename_i hl
      cases h
      cases r with | cons r t => cases t; cases r with | d r => cases r with | str y => exact .inl (.inr ⟨y, rfl, by rw [lenS, szl]; exact hl, by rw [lenS]; exact p.ok w (.d (.int _))⟩)
    · cases h
  · cases h
    cases r with
    | cons r t =>
      cases t
      cases r with
      | d r => cases r with
        | tup h1 h2 => exact .inl (.inl ⟨_, _, rfl, .inr (by rw [← hK]; exact w.ex.t h1), by rw [h2.len]; exact p.ok w (.d (.int _))⟩)
  · cases h
    cases r with
    | cons r t =>
      cases t
      cases r with
      | d r => cases r with
        | lst h1 h2 => exact .inl (.inl ⟨_, _, rfl, .inl (by rw [← hK]; exact w.ex.l h1), by rw [h2.len]; exact p.ok w (.d (.int _))⟩)
  · cases r with
    | cons r t =>
      cases t
      cases r with
      | c hr =>
        split at h
        · rename_i xs hx
          cases h
          obtain ⟨_, ws, h1, h2⟩ := w.cell _ _ _ hr hx
          exact .inl (.inl ⟨_, _, rfl, .inl (.inl (.inl h1)), by rw [h2.len]; exact p.ok w (.d (.int _))⟩)
        · rename_i xs hx
          cases h
          obtain ⟨_, ws, h1, h2⟩ := w.cell _ _ _ hr hx
          exact .inr ⟨_, _, rfl, h1, by rw [h2.len]; exact p.ok w (.d (.int _))⟩
        · cases h
  · cases h
/-- max, min of two -/
def bMax2 : Opn := fun as μ => match as with
  | [.d (.int i), .d (.int j)] => okz (.int (if j > i then j else i)) μ
  | _ => none
def bMin2 : Opn := fun as μ => match as with
  | [.d (.int i), .d (.int j)] => okz (.int (if j < i then j else i)) μ
  | _ => none
theorem so_max2 : SOpn G W (fun xs H Q => ∃ i j, xs = [.int i, .int j] ∧ Q (.int (if j > i then j else i)) H) bMax2 := by
  intro F ρ μ H σ vs as rr Q w r h p
  unfold bMax2 at h
  split at h
  · cases h; cases r with | cons r t => cases t with | cons r2 t => cases t; cases r with | d r => cases r; cases r2 with | d r2 => cases r2; exact ⟨_, _, rfl, p.ok w (.d (.int _))⟩
  · cases h
theorem so_min2 : SOpn G W (fun xs H Q => ∃ i j, xs = [.int i, .int j] ∧ Q (.int (if j < i then j else i)) H) bMin2 := by
  intro F ρ μ H σ vs as rr Q w r h p
  unfold bMin2 at h
  split at h
  · cases h; cases r with | cons r t => cases t with | cons r2 t => cases t; cases r with | d r => cases r; cases r2 with | d r2 => cases r2; exact ⟨_, _, rfl, p.ok w (.d (.int _))⟩
  · cases h
/-- int of a number or a truth -/
def bInt : Opn := fun as μ => match as with
  | [.d (.int i)] => okz (.int i) μ
  | [.d (.bl k)] => okz (.int (if k then 1 else 0)) μ
  | _ => none
theorem so_int : SOpn G W (fun xs H Q => (∃ i, xs = [.int i] ∧ Q (.int i) H) ∨ ∃ k, xs = [.bl k] ∧ Q (.int (if k then 1 else 0)) H) bInt := by
  intro F ρ μ H σ vs as rr Q w r h p
  unfold bInt at h
  split at h
  · cases h; cases r with | cons r t => cases t; cases r with | d r => cases r; exact .inl ⟨_, rfl, p.ok w (.d (.int _))⟩
  · cases h; cases r with | cons r t => cases t; cases r with | d r => cases r; exact .inr ⟨_, rfl, p.ok w (.d (.int _))⟩
  · cases h
/-- list(x), tuple(x) of a list or a tuple -/
def seqV (μ : Mu) : Sv → Option (List Sv)
  | .d (.tup l) => some (l.map Sv.d)
  | v => lstV μ v
def bList : Opn := fun as μ => match as with
  | [a] => match seqV μ a with
    | some xs => match toDs xs with
      | some ds => okz (.lst ds) μ
      | none => none
    | none => none
  | _ => none
/-- a list that will be changed -/
def bListC : Opn := fun as μ => match as with
  | [a] => match seqV μ a with
    | some xs => some (.ok (.c μ.length), μ ++ [.lst xs])
    | none => none
  | _ => none
theorem seqV_at (hK : G.K = X.K) {v : V} {sv : Sv} {xs : List Sv} (w : Wf G F ρ μ H) (r : Rs G F ρ v sv) (h : seqV μ sv = some xs) : ∃ a vs, v = .ref a ∧ (SqL X.K H a vs ∨ SqT X.K H a vs) ∧ RsL G F ρ vs xs := by
  unfold seqV at h
  split at h
  · cases h
    cases r with
    | d r => cases r with
      | tup h1 h2 => exact ⟨_, _, rfl, .inr (by rw [← hK]; exact w.ex.t h1), RsL.ofD h2⟩
  · obtain ⟨ax, vs, h1, h2, h3⟩ := lstV_at w r h
    exact ⟨ax, vs, h1, .inl (by rw [← hK]; exact h2), h3⟩
theorem so_list (hK : G.K = X.K) : SOpn G W (fun xs H Q => ∃ p ys, xs = [.ref p] ∧ (SqL X.K H p ys ∨ SqT X.K H p ys) ∧ ∀ l, H l = none → Q (.ref l) (upd H l (.lst ys))) bList := by
  intro F ρ μ H σ vs as rr Q w r h p
  unfold bList at h
  split at h
  · split at h
    · rename_i xs hx
      split at h
      · rename_i ds hd
        cases h
        cases r with
        | cons r t =>
          cases t
          obtain ⟨ax, vs, rfl, h2, h3⟩ := seqV_at hK w r hx
          refine ⟨_, _, rfl, h2, fun q hq => ?_⟩
          obtain ⟨w2, g2⟩ := w.newD hq (.lst vs)
          rw [of_toDs hd] at h3
          exact p _ _ _ _ g2 w2 (.d (.lst (SqL.of upd_same) ((RsL.toD h3).mono g2.f)))
      · cases h
    · cases h
  · cases h
theorem so_listC (hK : G.K = X.K) : SOpn G W (fun xs H Q => ∃ p ys, xs = [.ref p] ∧ (SqL X.K H p ys ∨ SqT X.K H p ys) ∧ ∀ l, H l = none → Q (.ref l) (upd H l (.lst ys))) bListC := by
  intro F ρ μ H σ vs as rr Q w r h p
  unfold bListC at h
  split at h
  · split at h
    · rename_i xs hx
      cases h
      cases r with
      | cons r t =>
        cases t
        obtain ⟨ax, vs, rfl, h2, h3⟩ := seqV_at hK w r hx
        refine ⟨_, _, rfl, h2, fun q hq => ?_⟩
        have g0 : Gr F F ρ (ρ ++ [q]) := ⟨Ex.refl F, [q], rfl⟩
        obtain ⟨w2, g2⟩ := w.newC hq (o := .lst vs) (c := .lst xs) ⟨w.ex.none hq, vs, upd_same, h3.mono g0⟩
        exact p _ _ _ _ g2 w2 (.c (by rw [← w.len]; simp))
    · cases h
  · cases h
def bTuple : Opn := fun as μ => match as with
  | [.d (.tup l)] => okz (.tup l) μ
  | [a] => match lstV μ a with
    | some xs => match toDs xs with
      | some ds => okz (.tup ds) μ
      | none => none
    | none => none
  | _ => none
theorem so_tuple (hK : G.K = X.K) : SOpn G W (fun xs H Q => ∃ p ys, xs = [.ref p] ∧ ((SqL X.K H p ys ∧ ∀ l, H l = none → Q (.ref l) (upd H l (.tup ys))) ∨ (SqT X.K H p ys ∧ Q (.ref p) H))) bTuple := by
  intro F ρ μ H σ vs as rr Q w r h p
  unfold bTuple at h
  split at h
  · cases h
    cases r with
    | cons r t =>
      cases t
      cases r with
      | d r =>
        have r0 := r
        cases r with
        | tup h1 h2 => exact ⟨_, _, rfl, .inr ⟨by rw [← hK]; exact w.ex.t h1, p.ok w (.d r0)⟩⟩
  · split at h
    · rename_i xs hx
      split at h
      · rename_i ds hd
        cases h
        cases r with
        | cons r t =>
          cases t
          obtain ⟨ax, vs, rfl, h2, h3⟩ := lstV_at w r hx
          refine ⟨_, _, rfl, .inl ⟨by rw [← hK]; exact h2, fun q hq => ?_⟩⟩
          obtain ⟨w2, g2⟩ := w.newD hq (.tup vs)
          rw [of_toDs hd] at h3
          exact p _ _ _ _ g2 w2 (.d (.tup (SqT.of upd_same) ((RsL.toD h3).mono g2.f)))
      · cases h
    · cases h
  · cases h

/-! ### isinstance -/
inductive Tg where
  | b (n : String) | o (c : String) | x (c : String)
def tgOf (μ : Mu) : Sv → Option Tg
  | .d .non => some (.b "NoneType")
  | .d (.bl _) => some (.b "bool")
  | .d (.int _) => some (.b "int")
  | .d (.str _) => some (.b "str")
  | .d (.lst _) => some (.b "list")
  | .d (.tup _) => some (.b "tuple")
  | .d (.ins c _) => some (.o c)
  | .d (.exc c _) => some (.x c)
  | .c n => match μ[n]? with
    | some (.lst _) => some (.b "list")
    | some (.dct _) => some (.b "dict")
    | some (.ins c _) => some (.o c)
    | _ => none
def tgV (G : Gx) : Tg → Value
  | .b n => .type n
  | .o c => .ref (G.cls c)
  | .x c => .ref (G.cls c)
/-- what is asked of an own class for isinstance -/
structure InsZ (K : PySem.W.Frag) (C : Addr) : Prop where
  ok : ∀ (H : Hp) (a dx : Addr) (fs : List (Str × V)), H a = some (.ins C dx fs) → TyOf K H (.ref a) (.ref C)
def fIsi (tab : Tg → Option Bool) (fa : Fz Sv) : Fz Sv := fun δ μ => (fa δ μ).bind fun a μ => match tgOf μ a with
  | some t => match tab t with
    | some k => okz (.bl k) μ
    | none => none
  | none => none
theorem rd_lst {l : Addr} {xs : List V} {K : PySem.W.Frag} (h : SqL K H l xs) : TyX K H (.ref l) (.type "list") := by
  rcases h with (h | ⟨o, h⟩) | ⟨o, its, n, h1, h2, _⟩
  · exact .base (.lst h)
  · exact .base (.frz h)
  · exact .kList h1 h2
theorem sqT_ty {l : Addr} {xs : List V} {K : PySem.W.Frag} (h : SqT K H l xs) : TyX K H (.ref l) (.type "tuple") := by
  rcases h with (h | ⟨o, h⟩) | ⟨o, its, n, h1, h2, _⟩
  · exact .base (.tup h)
  · exact .fTuple h
  · exact .kTuple h1 h2
theorem tg_at (hK : G.K = X.K) {v : V} {sv : Sv} {t : Tg} (w : Wf G F ρ μ H) (r : Rs G F ρ v sv) (h : tgOf μ sv = some t) (ho : ∀ c, t = .o c → InsZ X.K (G.cls c)) (hxx : ∀ c, t ≠ .x c) : TyX X.K H v (tgV G t) := by
  cases r with
  | d r =>
    cases r with
    | non => cases h; exact .base .non
    | bl b => cases h; exact .base (.bl b)
    | int i => cases h; exact .base (.int i)
    | str y => cases h; exact .base (.str y)
    | lst h1 h2 => cases h; exact rd_lst (by rw [← hK]; exact w.ex.l h1)
    | tup h1 h2 => cases h; exact sqT_ty (by rw [← hK]; exact w.ex.t h1)
    | ins h1 h2 => cases h; exact .base ((ho _ rfl).ok _ _ _ _ (w.ex _ _ h1))
    | exc0 h1 => cases h; exact absurd rfl (hxx _)
    | excD h1 h2 h3 => cases h; exact absurd rfl (hxx _)
  | c hr =>
    unfold tgOf at h
    simp only at h
    split at h
    · rename_i xs hx
      cases h
      obtain ⟨_, ws, h1, h2⟩ := w.cell _ _ _ hr hx
      exact .base (.lst h1)
    · rename_i xs hx
      cases h
      obtain ⟨_, ws, h1, h2⟩ := w.cell _ _ _ hr hx
      exact .base (.dK h1)
    · rename_i c xs hx
      cases h
      obtain ⟨_, dx, ws, h1, h2⟩ := w.cell _ _ _ hr hx
      exact .base ((ho _ rfl).ok _ _ _ _ h1)
    · cases h
def tIsi (K : PySem.W.Frag) (c : V) (te : TE) : TE := tCB (rIsi K) (tCons te (tCons (tC c) tNil))
theorem z_isi (hK : G.K = X.K) {c : V} {cv : Value} {f : Tg → Option Bool} (hcv : ClsV c cv) (hk : ∀ t k, f t = some k → PySem.W.kitOne X.K (tgV G t) cv = some k) (ho : ∀ c k, f (.o c) = some k → InsZ X.K (G.cls c)) (hnx : ∀ c, f (.x c) = none)
    (hg : Gl X "isinstance") (hm : X.mg "isinstance" = none) (ha : PE X a (zE G W fa)) (hb : PE X b (tC c))
    (hs1 : starEach [a, b] X.env = (false, eval a X.env) :: starEach [b] X.env := by rfl) (hs2 : starEach [b] X.env = (false, eval b X.env) :: starEach [] X.env := by rfl) (hpl : (backTo pos (starEach [b] X.env)).any (·.1) = false := by rfl) :
    PE X (.Call (.Name "isinstance" p) [a, b] [] pos) (zE G W (fIsi f fa)) :=
  peImp (pe_callB call_isi hg hm (by decide +kernel) (pa_cons ha (pa_cons hb pa_nil hs2) hs1) (by decide) (by decide) hs1 hpl) fun σ H Q q => by
  obtain ⟨F, ρ, δ, μ, rr, w, s, e, p⟩ := q
  refine zstep w s e p fun sa μ1 x F1 ρ1 H1 g1 w1 s1 rx e1 p1 => ?_
  split at e1
  · rename_i t ht
    split at e1
    · rename_i k hk'
      cases e1
      refine ⟨x, c, tgV G t, cv, k, rfl, hcv, tg_at hK w1 rx ht (fun c' e' => ho c' k (by rw [← e']; exact hk')) (fun c' e' => by rw [e', hnx] at hk'; cases hk'), hk t k hk', p1.ok w1 (.d (.bl k))⟩
    · cases e1
  · cases e1
/-- the answer for a built-in type -/
def isT (T tn : String) : Bool := tn == T || (T == "int" && tn == "bool")
def seven : List String := ["NoneType", "bool", "int", "str", "list", "tuple", "dict"]
def isB (T : String) : Tg → Option Bool
  | .b n => if n ∈ seven then some (isT T n) else none
  | .o _ => none
  | .x _ => none
theorem isB_ok {T : String} (h : seven.all (fun n => decide (kitB n T = some (isT T n))) = true) : ∀ t k, isB T t = some k → PySem.W.kitOne X.K (tgV G t) (.type T) = some k := by
  intro t k e
  cases t with
  | b n =>
    unfold isB at e
    simp only at e
    split at e
    · rename_i hn
      cases e
      exact kit_ty (of_decide_eq_true (List.all_eq_true.mp h n hn))
    · cases e
  | o c => cases e
  | x c => cases e
theorem isB_int : seven.all (fun n => decide (kitB n "int" = some (isT "int" n))) = true := by decide +kernel
theorem isB_bool : seven.all (fun n => decide (kitB n "bool" = some (isT "bool" n))) = true := by decide +kernel
theorem isB_str : seven.all (fun n => decide (kitB n "str" = some (isT "str" n))) = true := by decide +kernel
theorem isB_list : seven.all (fun n => decide (kitB n "list" = some (isT "list" n))) = true := by decide +kernel
theorem isB_tuple : seven.all (fun n => decide (kitB n "tuple" = some (isT "tuple" n))) = true := by decide +kernel
theorem isB_o {T c : String} {k : Bool} (h : isB T (.o c) = some k) : False := by cases h

/-! ### text[::-1], list[::-1] -/
def fRev (fa : Fz Sv) : Fz Sv := fun δ μ => (fa δ μ).bind fun a μ => match a with
  | .d (.str s) => if s.length ≤ 16777216 then okz (.str s.reverse) μ else none
  | a => match lstV μ a with
    | some xs => match toDs xs with
      | some ds => okz (.lst ds.reverse) μ
      | none => none
    | none => none
def tRevS (te : TE) : TE := fun σ H Q => te σ H fun x H1 => ∃ z : Str, x = .str z ∧ z.length ≤ sizeLine ∧ Q (.str ⟨z.cps.toList.reverse.toArray⟩) H1
theorem fm_map {α β : Type} {f : α → Option β} {g : α → β} : ∀ {l : List α}, (∀ k ∈ l, f k = some (g k)) → l.filterMap f = l.map g
  | [], _ => rfl
  | x :: r, h => by
    rw [List.filterMap_cons, h x List.mem_cons_self, List.map_cons, fm_map fun k hk => h k (List.mem_cons_of_mem _ hk)]
theorem revS_picked (z : Str) (t : Tok) : ((PySem.slicePicked z none none (some (-1, t))).filterMap (z.cps[·]?)) = z.cps.toList.reverse := by
  have h0 : PySem.slicePicked z none none (some (-1, t)) = sliceRange ((z.length : Int) - 1) (-1) (-1) := by
    unfold PySem.slicePicked Builtin.Str.strSliceIndices
    simp
  rw [h0, PySem.W.krv_sliceRange, List.filterMap_map]
  have hn : z.length = z.cps.size := rfl
  rw [hn]
  apply List.ext_getElem?
  intro j
  by_cases hj : j < z.cps.size
  · have e1 : ∀ k ∈ List.range z.cps.size, ((fun x => z.cps[x]?) ∘ fun k => z.cps.size - 1 - k) k = some (z.cps.toList.reverse.getD k 0) := by
      intro k hk
      have hk' := List.mem_range.mp hk
      simp only [Function.comp]
      rw [List.getD_eq_getElem?_getD, List.getElem?_reverse (by simpa using hk')]
      rw [Array.getElem?_eq_getElem (by omega), Array.length_toList, List.getElem?_eq_getElem (by simp; omega)]
      simp
    rw [show List.filterMap ((fun x => z.cps[x]?) ∘ fun k => z.cps.size - 1 - k) (List.range z.cps.size) = (List.range z.cps.size).map (fun k => z.cps.toList.reverse.getD k 0) from by
      exact fm_map e1]
    rw [List.getElem?_map, List.getElem?_range hj]
    simp only [Option.map_some]
    rw [List.getD_eq_getElem?_getD, List.getElem?_eq_getElem (by simpa using hj)]
    simp
  · have l1 : (List.filterMap ((fun x => z.cps[x]?) ∘ fun k => z.cps.size - 1 - k) (List.range z.cps.size)).length ≤ z.cps.size := by
      refine Nat.le_trans (List.length_filterMap_le _ _) ?_
      simp
    rw [List.getElem?_eq_none (by omega), List.getElem?_eq_none (by simp; omega)]
theorem pe_revS {te : TE} {k : Nat} {p1 p3 : Pos} (he : PE X e te) : PE X (.Subscript e (.Slice none none (some (.UnaryOp .USub (.Constant (.int 1) k p1) p2)) p3) pos) (tRevS te) := ⟨fun pins s σ H Q I h => by
  have minus : PO X (some (.UnaryOp .USub (.Constant (.int 1) k p1) p2)) (tPart (tUn (rU fun i => .int (-i)) (tC (.int 1)))) := po_some (pe_un un_neg pe_int)
  refine Subscript_ (thn (he.run pins s σ H _ I h) fun v s1 ⟨x, H1, I1, r1, z, ex, hz, q⟩ => ?_)
  subst ex
  obtain ⟨tk, rfl⟩ := r1
  refine wpAny_Slice (thn (po_none.run pins s1 σ H1 (fun o J => o = none ∧ J = H1) I1 ⟨rfl, rfl⟩) fun vl s2 ⟨l, H2, I2, pl, el, e2⟩ => ?_)
  subst el e2
  refine thn (po_none.run pins s2 σ H2 (fun o J => o = none ∧ J = H2) I2 ⟨rfl, rfl⟩) fun vu s3 ⟨u, H3, I3, pu, eu, e3⟩ => ?_
  subst eu e3
  refine thn (minus.run pins s3 σ H3 (fun o J => o = some (-1) ∧ J = H3) I3 ⟨1, rfl, -1, rfl, rfl, rfl⟩) fun vs s4 ⟨o, H4, I4, pst, eo, e4⟩ => ?_
  subst eo e4
  obtain ⟨l0, hl0, hl1⟩ := IsPart.raw pl
  obtain ⟨u0, hu0, hu1⟩ := IsPart.raw pu
  obtain ⟨st, hst0, hst1⟩ := IsPart.raw pst
  cases l0 with
  | some _ => cases hl1
  | none =>
  cases u0 with
  | some _ => cases hu1
  | none =>
  cases st with
  | none => cases hst1
  | some st =>
  obtain ⟨sv, stk⟩ := st
  have e5 : sv = -1 := by simpa using hst1
  subst e5
  subst hl0 hu0 hst0
  have I5 : Inv X pins σ H4 { s4 with heap := s4.heap.push { cls := .type "slice", data := .fields #[partValue none, partValue none, partValue (some (-1, stk))] } } := I4.kept (t' := s4.toks) fun b ob q => Heap.get?_push_of_some _ q
  refine tail_any (ops := [.str z tk, .ref s4.heap.objs.size]) (typeIs_str _ z tk) slot_str_getitem.lookup ?_ (by with_unfolding_all rfl)
  refine PySem.wpAny_getItem_str_slice (l := none) (u := none) (st := some (-1, stk)) (Heap.IsSliceOf.new ..) rfl ?_
  have made : PySem.sliceMade z tk none none (some (-1, stk)) = Made.str ⟨z.cps.toList.reverse.toArray⟩ := by
    unfold PySem.sliceMade
    rw [revS_picked]
    simp
  rw [made]
  refine ⟨?_, .str _, H4, I5.tok _, ⟨_, rfl⟩, q⟩
  show (z.cps.toList.reverse.toArray).size ≤ sizeLine
  rw [lenS] at hz
  simpa using hz⟩
theorem z_rev (hK : G.K = X.K) {k : Nat} {p1 p3 : Pos} (ha : PE X a (zE G W fa)) : PE X (.Subscript a (.Slice none none (some (.UnaryOp .USub (.Constant (.int 1) k p1) p2)) p3) pos) (zE G W (fRev fa)) :=
  peImp (peOr (pe_revL ha) (pe_revS ha)) fun σ H Q q => by
  obtain ⟨F, ρ, δ, μ, rr, w, s, e, p⟩ := q
  unfold fRev at e
  cases h : fa δ μ with
  | none => rw [h] at e; cases e
  | some q =>
    obtain ⟨v, μ1⟩ := q
    rw [h] at e
    cases v with
    | error x => cases e; exact .inl ⟨F, ρ, δ, μ, _, w, s, h, p⟩
    | ok v =>
      rw [Rz.bind_ok] at e
      split at e
      · split at e
        · rename_i hl
          cases e
          refine .inr ⟨F, ρ, δ, μ, _, w, s, h, fun x F1 ρ1 H1 g1 w1 r1 => ?_⟩
          cases r1 with
          | d r1 =>
            cases r1 with
            | str z => exact ⟨z, rfl, by rw [lenS, szl]; exact hl, p _ _ _ _ g1 w1 (.d (rpS rfl))⟩
        · cases e
      · split at e
        · rename_i xs hx
          split at e
          · rename_i ds hd
            cases e
            refine .inl ⟨F, ρ, δ, μ, _, w, s, h, fun x F1 ρ1 H1 g1 w1 r1 => ?_⟩
            obtain ⟨ax, vs, rfl, h2, h3⟩ := lstV_at w1 r1 hx
            refine ⟨_, _, rfl, by rw [← hK]; exact h2, fun q hq => ?_⟩
            obtain ⟨w2, g2⟩ := w1.newD hq (.lst vs.reverse)
            rw [of_toDs hd] at h3
            have h4 := h3.rev
            rw [← List.map_reverse] at h4
            exact p _ _ _ _ (g1.trans g2) w2 (.d (.lst (SqL.of upd_same) ((RsL.toD h4).mono g2.f)))
          · cases e
        · cases e
end
end Z
namespace Z
open PySem PySem.Spec PyProof.Rows L2
section
variable {G : Gx} {X : Cx} {W : WX} {F : Hp} {ρ : List Addr} {μ : Mu} {H : Hp} {a b e o tg : Expr} {es : List Expr} {fa fb fo : Fz Sv} {fr : Fz (List Sv)} {pos p2 p apos : Pos} {x : Str} {id T : String}
/-! ### what a for walks -/
def fSeq (fa : Fz Sv) : Fz (List Sv) := fun δ μ => (fa δ μ).bind fun a μ => match a with
  | .d (.lst l) => some (.ok (l.map Sv.d), μ)
  | .d (.tup l) => some (.ok (l.map Sv.d), μ)
  | .d (.str s) => some (.ok (s.map fun c => .d (.str [c])), μ)
  | _ => none
theorem wk_lst {l : Addr} {vs : List V} {ds : List D} (h1 : SqL G.K F l vs) (h2 : RpL G F vs ds) : WalkOk G F ρ (Itl G.K l) (ds.map Sv.d) := by
  intro F' ρ' μ' H' g w i
  have r1 := w.ex.l (g.f.l h1)
  have r2 := h2.mono g.f
  have hl := h2.len
  refine ⟨fun hi => ⟨vs, r1, by rw [hl]; simpa using hi⟩, fun y hy => ?_⟩
  obtain ⟨u, hu, ru⟩ := RsL.get (RsL.ofD (ρ := ρ') r2) hy
  refine ⟨⟨vs, u, r1, hu⟩, fun x H'' ⟨e1, hx⟩ => ?_⟩
  subst e1
  have := hx vs r1
  rw [hu] at this; cases this
  exact ⟨F', ρ', Gr.refl _ _, w, ru⟩
theorem wk_tup {l : Addr} {vs : List V} {ds : List D} (h1 : SqT G.K F l vs) (h2 : RpL G F vs ds) : WalkOk G F ρ (Itt G.K l) (ds.map Sv.d) := by
  intro F' ρ' μ' H' g w i
  have r1 := w.ex.t (g.f.t h1)
  have r2 := h2.mono g.f
  have hl := h2.len
  refine ⟨fun hi => ⟨vs, r1, by rw [hl]; simpa using hi⟩, fun y hy => ?_⟩
  obtain ⟨u, hu, ru⟩ := RsL.get (RsL.ofD (ρ := ρ') r2) hy
  refine ⟨⟨vs, u, r1, hu⟩, fun x H'' ⟨e1, hx⟩ => ?_⟩
  subst e1
  have := hx vs r1
  rw [hu] at this; cases this
  exact ⟨F', ρ', Gr.refl _ _, w, ru⟩
theorem wk_str (z : Str) : WalkOk G F ρ (Its z) (z.cps.toList.map fun c => Sv.d (.str [c])) := by
  intro F' ρ' μ' H' g w i
  refine ⟨fun hi => ?_, fun y hy => ?_⟩
  · show z.cps.size ≤ i
    simpa using hi
  · rw [List.getElem?_map] at hy
    cases hc : z.cps.toList[i]? with
    | none => rw [hc] at hy; cases hy
    | some c =>
      rw [hc] at hy
      have hy' : Sv.d (.str [c]) = y := Option.some.inj hy
      subst hy'
      have hi : i < z.cps.size := by simpa using (List.getElem?_eq_some_iff.mp hc).1
      refine ⟨hi, fun v H'' ⟨e1, c', hc', ev⟩ => ?_⟩
      subst e1 ev
      have : c' = c := by
        rw [← Array.getElem?_toList, hc] at hc'
        exact (Option.some.inj hc').symm
      subst this
      exact ⟨F', ρ', Gr.refl _ _, w, .d (rpS rfl)⟩
theorem zi_seq (hK : G.K = X.K) (ha : PE X a (zE G W fa)) : PI X tg a (zI G W (fSeq fa)) := piImp (piOr (pi_list ha) (piOr (pi_tup ha) (pi_str ha))) fun σ H R q => by
  obtain ⟨F, ρ, δ, μ, rr, w, s, e, p⟩ := q
  unfold fSeq at e
  cases h : fa δ μ with
  | none => rw [h] at e; cases e
  | some q =>
    obtain ⟨v, μ1⟩ := q
    rw [h] at e
    cases v with
    | error x => cases e; exact .inl ⟨F, ρ, δ, μ, _, w, s, h, p⟩
    | ok v =>
      rw [Rz.bind_ok] at e
      split at e
      · cases e
        refine .inl ⟨F, ρ, δ, μ, _, w, s, h, fun x F1 ρ1 H1 g1 w1 r1 => ?_⟩
        cases r1 with
        | d r1 => cases r1 with
          | lst h1 h2 => exact ⟨_, rfl, ⟨_, by rw [← hK]; exact w1.ex.l h1⟩, by rw [← hK]; exact p _ _ _ _ g1 w1 (wk_lst h1 h2)⟩
      · cases e
        refine .inr (.inl ⟨F, ρ, δ, μ, _, w, s, h, fun x F1 ρ1 H1 g1 w1 r1 => ?_⟩)
        cases r1 with
        | d r1 => cases r1 with
          | tup h1 h2 => exact ⟨_, rfl, ⟨_, by rw [← hK]; exact w1.ex.t h1⟩, by rw [← hK]; exact p _ _ _ _ g1 w1 (wk_tup h1 h2)⟩
      · cases e
        refine .inr (.inr ⟨F, ρ, δ, μ, _, w, s, h, fun x F1 ρ1 H1 g1 w1 r1 => ?_⟩)
        cases r1 with
        | d r1 => cases r1 with
          | str z => exact ⟨z, rfl, p _ _ _ _ g1 w1 (wk_str z)⟩
      · cases e
/-- range -/
def rngI (lo : Int) (n : Nat) : List Sv := (List.range n).map fun i => .d (.int (lo + (i : Nat)))
def fRng1 (fr : Fz (List Sv)) : Fz (List Sv) := fun δ μ => (fr δ μ).bind fun as μ => match as with
  | [.d (.int j)] => if -(2 ^ 62) ≤ j ∧ j < 2 ^ 62 then some (.ok (rngI 0 j.toNat), μ) else none
  | _ => none
def fRng2 (fr : Fz (List Sv)) : Fz (List Sv) := fun δ μ => (fr δ μ).bind fun as μ => match as with
  | [.d (.int i), .d (.int j)] => if -(2 ^ 62) ≤ i ∧ i < 2 ^ 62 ∧ -(2 ^ 62) ≤ j ∧ j < 2 ^ 62 then some (.ok (rngI i (j - i).toNat), μ) else none
  | _ => none
theorem wk_rng (lo : Int) (n : Nat) : WalkOk G F ρ (Itr lo n) (rngI lo n) := by
  intro F' ρ' μ' H' g w i
  refine ⟨fun hi => ?_, fun y hy => ?_⟩
  · show n ≤ i
    simpa [rngI] using hi
  · unfold rngI at hy
    rw [List.getElem?_map] at hy
    by_cases hi : i < n
    · rw [List.getElem?_range hi] at hy
      have hy' : Sv.d (.int (lo + (i : Nat))) = y := Option.some.inj hy
      subst hy'
      refine ⟨hi, fun v H'' ⟨e1, ev⟩ => ?_⟩
      subst e1 ev
      exact ⟨F', ρ', Gr.refl _ _, w, .d (.int _)⟩
    · rw [List.getElem?_eq_none (by simpa using hi)] at hy; cases hy
theorem zi_rng1 (hg : Gl X "range") (hm : X.mg "range" = none) (ha : PA X [a] (zA G W fr)) (hs : starEach [a] X.env = [(false, eval a X.env)] := by rfl) : PI X tg (.Call (.Name "range" p) [a] [] pos) (zI G W (fRng1 fr)) := piImp (pi_range1 hg hm ha hs) fun σ H R q => by
  obtain ⟨F, ρ, δ, μ, rr, w, s, e, p⟩ := q
  refine zstep w s e p fun sa μ1 x F1 ρ1 H1 g1 w1 s1 rx e1 p1 => ?_
  split at e1
  · split at e1
    · rename_i hb
      cases e1
      cases rx with | cons r t => cases t; cases r with | d r => cases r; exact ⟨_, rfl, hb.1, hb.2, p1.ok w1 (wk_rng 0 _)⟩
    · cases e1
  · cases e1
theorem zi_rng2 (hg : Gl X "range") (hm : X.mg "range" = none) (ha : PA X [a, b] (zA G W fr)) (hs : starEach [a, b] X.env = [(false, eval a X.env), (false, eval b X.env)] := by rfl) (hs2 : starEach [b] X.env = [(false, eval b X.env)] := by rfl) :
    PI X tg (.Call (.Name "range" p) [a, b] [] pos) (zI G W (fRng2 fr)) := piImp (pi_range2 hg hm ha hs hs2) fun σ H R q => by
  obtain ⟨F, ρ, δ, μ, rr, w, s, e, p⟩ := q
  refine zstep w s e p fun sa μ1 x F1 ρ1 H1 g1 w1 s1 rx e1 p1 => ?_
  split at e1
  · split at e1
    · rename_i hb
      cases e1
      cases rx with | cons r t => cases t with | cons r2 t => cases t; cases r with | d r => cases r; cases r2 with | d r2 => cases r2; exact ⟨_, _, rfl, hb, p1.ok w1 (wk_rng _ _)⟩
    · cases e1
  · cases e1
/-- enumerate of a list -/
def enI : Nat → List D → List Sv
  | _, [] => []
  | k, x :: r => .d (.tup [.int (k : Nat), x]) :: enI (k + 1) r
theorem enI_get : ∀ (l : List D) (k i : Nat), (enI k l)[i]? = (l[i]?).map fun x => Sv.d (.tup [.int ((k + i : Nat) : Int), x])
  | [], k, i => by simp [enI]
  | x :: r, k, 0 => by simp [enI]
  | x :: r, k, i + 1 => by
    have := enI_get r (k + 1) i
    simp only [enI, List.getElem?_cons_succ, this]
    rw [show k + 1 + i = k + (i + 1) by omega]
theorem enI_len : ∀ (l : List D) (k : Nat), (enI k l).length = l.length
  | [], _ => rfl
  | _ :: r, k => by simp [enI, enI_len r]
def fEnum (fr : Fz (List Sv)) : Fz (List Sv) := fun δ μ => (fr δ μ).bind fun as μ => match as with
  | [.d (.lst l)] => some (.ok (enI 0 l), μ)
  | _ => none
theorem wk_enum {l : Addr} {vs : List V} {ds : List D} (h1 : SqL G.K F l vs) (h2 : RpL G F vs ds) : WalkOk G F ρ (Ite G.K l) (enI 0 ds) := by
  intro F' ρ' μ' H' g w i
  have r1 := w.ex.l (g.f.l h1)
  have r2 := h2.mono g.f
  have hl := h2.len
  refine ⟨fun hi => ⟨vs, r1, by rw [hl]; rw [enI_len] at hi; exact hi⟩, fun y hy => ?_⟩
  rw [enI_get] at hy
  cases hd : ds[i]? with
  | none => rw [hd] at hy; cases hy
  | some d =>
    rw [hd] at hy
    have hy' : Sv.d (.tup [.int ((0 + i : Nat) : Int), d]) = y := Option.some.inj hy
    subst hy'
    obtain ⟨u, hu, ru⟩ := RsL.get (RsL.ofD (ρ := ρ') r2) (show (ds.map Sv.d)[i]? = some (.d d) by rw [List.getElem?_map, hd]; rfl)
    refine ⟨⟨vs, u, r1, hu⟩, fun x H'' ⟨T, z, ev, hT, eH, hx⟩ => ?_⟩
    have e1 := hx vs r1
    rw [hu] at e1; cases e1
    subst ev eH
    obtain ⟨w2, g2⟩ := w.newD hT (.tup [.int (i : Nat), u])
    refine ⟨_, ρ', g2, w2, .d (.tup (SqT.of upd_same) ?_)⟩
    cases ru with
    | d ru =>
      rw [Nat.zero_add]
      exact .cons (.int _) (.cons (ru.mono g2.f) .nil)
theorem zi_enum (hK : G.K = X.K) {elts : List Expr} {kk : Nat} {tpos : Pos} (hg : Gl X "enumerate") (hm : X.mg "enumerate" = none) (ha : PA X [a] (zA G W fr)) (hs : starEach [a] X.env = [(false, eval a X.env)] := by rfl) :
    PI X (.Tuple elts kk tpos) (.Call (.Name "enumerate" p) [a] [] pos) (zI G W (fEnum fr)) := piImp (pi_enum hg hm ha hs) fun σ H R q => by
  obtain ⟨F, ρ, δ, μ, rr, w, s, e, p⟩ := q
  refine zstep w s e p fun sa μ1 x F1 ρ1 H1 g1 w1 s1 rx e1 p1 => ?_
  split at e1
  · cases e1
    cases rx with
    | cons r t =>
      cases t
      cases r with
      | d r => cases r with
        | lst h1 h2 => exact ⟨_, _, rfl, by rw [← hK]; exact w1.ex.l h1, by rw [← hK]; exact p1.ok w1 (wk_enum h1 h2)⟩
  · cases e1
/-- zip of two lists -/
def zipI : List D → List D → List Sv
  | x :: r, y :: s => .d (.tup [x, y]) :: zipI r s
  | _, _ => []
theorem zipI_get : ∀ (l m : List D) (i : Nat), (zipI l m)[i]? = (l[i]?).bind fun x => (m[i]?).map fun y => Sv.d (.tup [x, y])
  | [], m, i => by simp [zipI]
  | x :: r, [], i => by cases i <;> simp [zipI]
  | x :: r, y :: s, 0 => by simp [zipI]
  | x :: r, y :: s, i + 1 => by simpa [zipI] using zipI_get r s i
theorem zipI_len : ∀ (l m : List D), (zipI l m).length = min l.length m.length
  | [], m => by simp [zipI]
  | x :: r, [] => by simp [zipI]
  | x :: r, y :: s => by simp [zipI, zipI_len r s]
def fZip (fr : Fz (List Sv)) : Fz (List Sv) := fun δ μ => (fr δ μ).bind fun as μ => match as with
  | [.d (.lst l), .d (.lst m)] => some (.ok (zipI l m), μ)
  | _ => none
theorem wk_zip {l l2 : Addr} {vs vs2 : List V} {ds ds2 : List D} (h1 : SqL G.K F l vs) (h2 : RpL G F vs ds) (h3 : SqL G.K F l2 vs2) (h4 : RpL G F vs2 ds2) : WalkOk G F ρ (Itz G.K l l2) (zipI ds ds2) := by
  intro F' ρ' μ' H' g w i
  have r1 := w.ex.l (g.f.l h1)
  have r3 := w.ex.l (g.f.l h3)
  have r2 := h2.mono g.f
  have r4 := h4.mono g.f
  refine ⟨fun hi => ⟨vs, vs2, r1, r3, by rw [zipI_len] at hi; rw [h2.len, h4.len]; omega⟩, fun y hy => ?_⟩
  rw [zipI_get] at hy
  cases hd : ds[i]? with
  | none => rw [hd] at hy; cases hy
  | some d =>
    cases hd2 : ds2[i]? with
    | none => rw [hd, hd2] at hy; cases hy
    | some d2 =>
      rw [hd, hd2] at hy
      have hy' : Sv.d (.tup [d, d2]) = y := Option.some.inj hy
      subst hy'
      obtain ⟨u, hu, ru⟩ := RsL.get (RsL.ofD (ρ := ρ') r2) (show (ds.map Sv.d)[i]? = some (.d d) by rw [List.getElem?_map, hd]; rfl)
      obtain ⟨u2, hu2, ru2⟩ := RsL.get (RsL.ofD (ρ := ρ') r4) (show (ds2.map Sv.d)[i]? = some (.d d2) by rw [List.getElem?_map, hd2]; rfl)
      refine ⟨⟨vs, vs2, u, u2, r1, r3, hu, hu2⟩, fun x H'' ⟨T, z, z2, ev, hT, eH, hx, hx2⟩ => ?_⟩
      have e1 := hx vs r1
      rw [hu] at e1; cases e1
      have e2 := hx2 vs2 r3
      rw [hu2] at e2; cases e2
      subst ev eH
      obtain ⟨w2, g2⟩ := w.newD hT (.tup [u, u2])
      refine ⟨_, ρ', g2, w2, .d (.tup (SqT.of upd_same) ?_)⟩
      cases ru with
      | d ru => cases ru2 with
        | d ru2 => exact .cons (ru.mono g2.f) (.cons (ru2.mono g2.f) .nil)
theorem zi_zip (hK : G.K = X.K) {elts : List Expr} {kk : Nat} {tpos : Pos} (hg : Gl X "zip") (hm : X.mg "zip" = none) (ha : PA X [a, b] (zA G W fr)) (hs : starEach [a, b] X.env = (false, eval a X.env) :: starEach [b] X.env := by rfl) (hpl : (backTo pos (starEach [b] X.env)).any (·.1) = false := by rfl) :
    PI X (.Tuple elts kk tpos) (.Call (.Name "zip" p) [a, b] [] pos) (zI G W (fZip fr)) := piImp (pi_zip hg hm ha hs hpl) fun σ H R q => by
  obtain ⟨F, ρ, δ, μ, rr, w, s, e, p⟩ := q
  refine zstep w s e p fun sa μ1 x F1 ρ1 H1 g1 w1 s1 rx e1 p1 => ?_
  split at e1
  · cases e1
    cases rx with
    | cons r t => cases t with
      | cons r' t =>
        cases t
        cases r with
        | d r => cases r with
          | lst h1 h2 => cases r' with
            | d r' => cases r' with
              | lst h3 h4 => exact ⟨_, _, _, _, rfl, by rw [← hK]; exact w1.ex.l h1, by rw [← hK]; exact w1.ex.l h3, by rw [← hK]; exact p1.ok w1 (wk_zip h1 h2 h3 h4)⟩
  · cases e1
end
end Z
namespace Z
open PySem PySem.Spec PyProof.Rows L2
section
variable {G : Gx} {X : Cx} {W : WX} {F : Hp} {ρ : List Addr} {μ : Mu} {H : Hp} {a b e o tg : Expr} {es : List Expr} {fa fb fo : Fz Sv} {fr : Fz (List Sv)} {pos p2 p apos : Pos} {x : Str} {id T : String}
/-! ### methods of what is built in -/
def tyS (T : String) (μ : Mu) : Sv → Bool
  | .d (.str _) => T == "str"
  | .d (.lst _) => T == "list"
  | .c n => match μ[n]? with
    | some (.lst _) => T == "list"
    | some (.dct _) => T == "dict"
    | _ => false
  | _ => false
theorem tyS_at (hK : G.K = X.K) {v : V} {sv : Sv} (w : Wf G F ρ μ H) (r : Rs G F ρ v sv) (h : tyS T μ sv = true) : tyV X.K T v H := by
  unfold tyS at h
  split at h
  · cases r with | d r => cases r; exact eq_of_beq h
  · cases r with | d r => cases r with | lst h1 h2 => exact .inl ⟨eq_of_beq h, _, by rw [← hK]; exact w.ex.l h1⟩
  · cases r with
    | c hr =>
      split at h
      · rename_i xs hx
        obtain ⟨_, ws, h1, h2⟩ := w.cell _ _ _ hr hx
        exact .inl ⟨eq_of_beq h, _, .inl (.inl h1)⟩
      · rename_i xs hx
        obtain ⟨_, ws, h1, h2⟩ := w.cell _ _ _ hr hx
        exact .inr (.inr (.inl ⟨eq_of_beq h, .inl ⟨_, h1⟩⟩))
      · cases h
  · cases h
abbrev Opm := Sv → List Sv → Mu → Rz Sv
def fM (T : String) (m : Opm) (fo : Fz Sv) (fr : Fz (List Sv)) : Fz Sv := fun δ μ => (fo δ μ).bind fun o μ => if tyS T μ o = true then (fr δ μ).bind fun as μ => m o as μ else none
def SOm (G : Gx) (W : WX) (r : V → List V → Hp → VK → Prop) (m : Opm) : Prop := ∀ (F : Hp) (ρ : List Addr) (μ : Mu) (H : Hp) (σ : L2.St) (x : V) (o : Sv) (vs : List V) (as : List Sv) (rr : Except Exn Sv × Mu) (Q : VK),
  Wf G F ρ μ H → Rs G F ρ x o → RsL G F ρ vs as → m o as μ = some rr → Post G W σ F ρ (Rs G) Q rr → r x vs H Q
theorem zm_reads (hK : G.K = X.K) {r : V → List V → Hp → VK → Prop} {m : Opm} (so : SOm G W r m) {σ : L2.St} {H : Hp} {Q : VK} (q : zE G W (fM T m fo fr) σ H Q) : tBM X.K T r (zE G W fo) (zA G W fr) σ H Q := by
  obtain ⟨F, ρ, δ, μ, rr, w, s, e, p⟩ := q
  refine zstep w s e p fun sa μ1 x F1 ρ1 H1 g1 w1 s1 rx e1 p1 => ?_
  split at e1
  · rename_i ht
    refine ⟨tyS_at hK w1 rx ht, ?_⟩
    refine zstep w1 s1 e1 p1 fun sb μ2 y F2 ρ2 H2 g2 w2 s2 ry e2 p2 => ?_
    exact so F2 ρ2 μ2 H2 σ x sa y sb rr Q w2 (rx.mono g2) ry e2 p2
  · cases e1
theorem z_bm (hK : G.K = X.K) {name : Str} {cpos : Pos} {r : V → List V → Hp → VK → Prop} {m : Opm} (pa : PlainAttrs T) (slot : Slot T name id) (hty : typeOf (.builtin id) = pure (.type "method_descriptor")) (hm : MtR X id r) (so : SOm G W r m) (ho : PE X o (zE G W fo)) (ha : PA X (e :: es) (zA G W fr))
    (hbase : attributeBase o name X.env (eval o X.env) = eval o X.env := by rfl)
    (hfew : ((backTo cpos (starEach (e :: es) X.env)).all (fun x => !x.1) && (backToKw cpos (keywordEach [] X.env)).all (fun x => x.1.isSome)
      && decide ((e :: es).length + ([] : List Keyword).length + (if ([] : List Keyword).isEmpty then 0 else 1) < 30)) = true := by rfl)
    (hline : (apos.endLine == cpos.line) = true := by rfl) (hs : starEach (e :: es) X.env = (false, eval e X.env) :: starEach es X.env := by rfl) (hplain : (backTo cpos (starEach es X.env)).any (·.1) = false := by rfl) :
    PE X (.Call (.Attribute o name apos) (e :: es) [] cpos) (zE G W (fM T m fo fr)) := peImp (pe_bm pa slot hty hm ho ha hbase hfew hline hs hplain) fun _ _ _ q => zm_reads hK so q
theorem z_bm0 (hK : G.K = X.K) {name : Str} {cpos : Pos} {r : V → List V → Hp → VK → Prop} {m : Opm} (pa : PlainAttrs T) (slot : Slot T name id) (hty : typeOf (.builtin id) = pure (.type "method_descriptor")) (hm : MtR X id r) (so : SOm G W r m) (ho : PE X o (zE G W fo))
    (hbase : attributeBase o name X.env (eval o X.env) = eval o X.env := by rfl) (hline : (apos.endLine == cpos.line) = true := by rfl) :
    PE X (.Call (.Attribute o name apos) [] [] cpos) (zE G W (fM T m fo fNil)) := peImp (pe_bm0 pa slot hty hm ho hbase hline) fun σ H Q q => by
  obtain ⟨F, ρ, δ, μ, rr, w, s, e, p⟩ := q
  refine zstep w s e p fun sa μ1 x F1 ρ1 H1 g1 w1 s1 rx e1 p1 => ?_
  split at e1
  · rename_i ht
    exact ⟨tyS_at hK w1 rx ht, so F1 ρ1 μ1 H1 σ x sa [] [] rr Q w1 rx .nil e1 p1⟩
  · cases e1
/-- xs.append(y) -/
def mApp : Opm := fun o as μ => match o, as with
  | .c n, [y] => match μ[n]? with
    | some (.lst xs) => if xs.length < 16777216 then some (.ok (.d .non), μ.set n (.lst (xs ++ [y]))) else none
    | _ => none
  | _, _ => none
theorem so_app : SOm G W rAppend mApp := by
  intro F ρ μ H σ x o vs as rr Q w rx r h p
  unfold mApp at h
  split at h
  · split at h
    · rename_i xs hx
      split at h
      · rename_i hl
        cases h
        cases rx with
        | c hr =>
          cases r with
          | cons r t =>
            cases t
            obtain ⟨h0, ws, h1, h2⟩ := w.cell _ _ _ hr hx
            refine ⟨_, _, _, rfl, rfl, h1, by rw [h2.len, szl]; exact hl, ?_⟩
            exact p.ok (w.setC hr h0 (show CellOk G F ρ _ _ (.lst _) from ⟨h0, _, upd_same, h2.app (.cons r .nil)⟩)) (.d .non)
      · cases h
    · cases h
  · cases h
/-- xs.pop() -/
def mPop : Opm := fun o as μ => match o, as with
  | .c n, [] => match μ[n]? with
    | some (.lst xs) => match xs[xs.length - 1]? with
      | some y => some (.ok y, μ.set n (.lst xs.dropLast))
      | none => none
    | _ => none
  | _, _ => none
theorem so_pop : SOm G W rPop mPop := by
  intro F ρ μ H σ x o vs as rr Q w rx r h p
  unfold mPop at h
  split at h
  · split at h
    · rename_i xs hx
      split at h
      · rename_i y hy
        cases h
        cases rx with
        | c hr =>
          cases r
          obtain ⟨h0, ws, h1, h2⟩ := w.cell _ _ _ hr hx
          obtain ⟨u, hu, ru⟩ := h2.get hy
          refine ⟨_, _, u, rfl, rfl, h1, by rw [h2.len]; exact hu, ?_⟩
          exact p.ok (w.setC hr h0 (show CellOk G F ρ _ _ (.lst _) from ⟨h0, _, upd_same, h2.dropLast⟩)) ru
      · cases h
    · cases h
  · cases h
/-- xs.pop(i) -/
def mPopI : Opm := fun o as μ => match o, as with
  | .c n, [.d (.int i)] => match μ[n]? with
    | some (.lst xs) => match ixN xs.length i with
      | some k => match xs[k]? with
        | some y => if xs.length ≤ 16777216 then some (.ok y, μ.set n (.lst (xs.eraseIdx k))) else none
        | none => none
      | none => none
    | _ => none
  | _, _ => none
theorem so_popI : SOm G W rPopAt mPopI := by
  intro F ρ μ H σ x o vs as rr Q w rx r h p
  unfold mPopI at h
  split at h
  · split at h
    · rename_i xs hx
      split at h
      · rename_i k hk
        split at h
        · rename_i y hy
          split at h
          · rename_i hl
            cases h
            cases rx with
            | c hr =>
              cases r with
              | cons r t =>
                cases t
                cases r with
                | d r =>
                  cases r
                  obtain ⟨h0, ws, h1, h2⟩ := w.cell _ _ _ hr hx
                  obtain ⟨u, hu, ru⟩ := h2.get hy
                  obtain ⟨q1, q2, q3, q4⟩ := ixN_seq hk
                  refine ⟨_, _, _, k, u, rfl, rfl, h1, by omega, by omega, by rw [h2.len]; exact q1, hu, ?_⟩
                  exact p.ok (w.setC hr h0 (show CellOk G F ρ _ _ (.lst _) from ⟨h0, _, upd_same, h2.erase k⟩)) ru
          · cases h
        · cases h
      · cases h
    · cases h
  · cases h
/-- xs.clear() -/
def mClear : Opm := fun o as μ => match o, as with
  | .c n, [] => match μ[n]? with
    | some (.lst xs) => some (.ok (.d .non), μ.set n (.lst []))
    | _ => none
  | _, _ => none
theorem so_clear : SOm G W rClear mClear := by
  intro F ρ μ H σ x o vs as rr Q w rx r h p
  unfold mClear at h
  split at h
  · split at h
    · rename_i xs hx
      cases h
      cases rx with
      | c hr =>
        cases r
        obtain ⟨h0, ws, h1, h2⟩ := w.cell _ _ _ hr hx
        refine ⟨_, _, rfl, rfl, h1, ?_⟩
        exact p.ok (w.setC hr h0 (show CellOk G F ρ _ _ (.lst _) from ⟨h0, _, upd_same, .nil⟩)) (.d .non)
    · cases h
  · cases h
/-- sep.join(xs) -/
def toStrs : List D → Option (List (List Nat))
  | [] => some []
  | .str s :: r => (toStrs r).map fun l => s :: l
  | _ :: _ => none
def joinL (sep : List Nat) : List (List Nat) → List Nat
  | [] => []
  | [x] => x
  | x :: y :: r => x ++ (sep ++ joinL sep (y :: r))
def mJoin : Opm := fun o as μ => match o, as with
  | .d (.str sep), [v] => match seqV μ v with
    | some xs => match toDs xs with
      | some ds => match toStrs ds with
        | some ss => if (ss.map (·.length)).sum + ss.length * sep.length ≤ 16777216 then okz (.str (joinL sep ss)) μ else none
        | none => none
      | none => none
    | none => none
  | _, _ => none
theorem toStrs_at : ∀ {vs : List V} {ds : List D} {ss : List (List Nat)}, RpL G F vs ds → toStrs ds = some ss → ∃ ys : List Str, vs = ys.map V.str ∧ ys.map TL.tl = ss
  | _, _, ss, .nil, h => by cases h; exact ⟨[], rfl, rfl⟩
  | _, d :: r, ss, .cons h1 h2, h => by
    cases h1 with
    | str x =>
      unfold toStrs at h
      cases hr : toStrs r with
      | none => rw [hr] at h; cases h
      | some l =>
        rw [hr] at h; cases h
        obtain ⟨ys, e1, e2⟩ := toStrs_at h2 hr
        exact ⟨x :: ys, by rw [e1]; rfl, by rw [← e2]; rfl⟩
    | _ => cases h
theorem joinL_eq (sep : List Nat) : ∀ ss, joinL sep ss = TL.joinL sep ss
  | [] => rfl
  | [x] => rfl
  | x :: y :: r => by
    show x ++ (sep ++ joinL sep (y :: r)) = _
    rw [joinL_eq sep (y :: r)]
    rfl
theorem so_join (hK : G.K = X.K) : SOm G W (fun x xs H Q => ∃ a p, ∃ ys : List Str, x = .str a ∧ xs = [.ref p] ∧ (SqL X.K H p (ys.map V.str) ∨ SqT X.K H p (ys.map V.str)) ∧
    (ys.map (·.length)).sum + ys.length * a.length ≤ 16777216 ∧ Q (.str (Txt.join a ys)) H) mJoin := by
  intro F ρ μ H σ x o vs as rr Q w rx r h p
  unfold mJoin at h
  split at h
  · split at h
    · rename_i xs hx
      split at h
      · rename_i ds hd
        split at h
        · rename_i ss hs
          split at h
          · rename_i hl
            cases h
            cases r with
            | cons r t =>
              cases t
              cases rx with
              | d rx =>
                cases rx with
                | str sp =>
                  obtain ⟨ax, us, rfl, h2, h3⟩ := seqV_at hK w r hx
                  rw [of_toDs hd] at h3
                  obtain ⟨ys, e1, e2⟩ := toStrs_at (RsL.toD h3) hs
                  subst e1
                  refine ⟨sp, _, ys, rfl, rfl, h2, ?_, p.ok w (.d (rpS ?_))⟩
                  · rw [← e2, List.map_map, List.length_map] at hl
                    rw [lenS]
                    have e3 : (List.length ∘ TL.tl) = Str.length := funext fun z => (TL.len_tl z).symm
                    rw [show (fun x : List Nat => x.length) ∘ TL.tl = Str.length from e3] at hl
                    exact hl
                  · rw [joinL_eq, ← e2]
                    show TL.tl (Txt.join sp ys) = _
                    rw [TL.join_eq, TL.tl_join]
          · cases h
        · cases h
      · cases h
    · cases h
  · cases h
/-- s.endswith(t) -/
def endsL (s t : List Nat) : Bool := decide (t.length ≤ s.length ∧ s.drop (s.length - t.length) = t)
end
end Z
namespace Z
open PySem PySem.Spec PyProof.Rows L2
section
variable {G : Gx} {X : Cx} {W : WX} {F : Hp} {ρ : List Addr} {μ : Mu} {H : Hp} {a b e o tg : Expr} {es : List Expr} {fa fb fo fi fv : Fz Sv} {fr : Fz (List Sv)} {pos p2 p apos pos' : Pos} {x : Str} {id T : String}
def mEnds : Opm := fun o as μ => match o, as with
  | .d (.str s), [.d (.str t)] => okz (.bl (endsL s t)) μ
  | _, _ => none
theorem endsL_eq (a b : Str) : Txt.endswith a b = endsL (TL.tl a) (TL.tl b) := by
  unfold Txt.endswith endsL
  rw [PySem.StrLaws.subAt_eq, TL.len_tl, TL.len_tl, Nat.zero_add]
  by_cases h : (TL.tl b).length ≤ (TL.tl a).length
  · have e : ((TL.tl a).drop ((TL.tl a).length - (TL.tl b).length)).take (TL.tl b).length = (TL.tl a).drop ((TL.tl a).length - (TL.tl b).length) := List.take_of_length_le (by rw [List.length_drop]; omega)
    show (decide _ && (((TL.tl a).drop _).take _ == TL.tl b)) = _
    rw [e]
    have h2 : b.cps.size ≤ a.cps.size := by simpa using h
    simp only [TL.tl, Array.length_toList, h2, decide_true, Bool.true_and, true_and]
    rw [Bool.eq_iff_iff, beq_iff_eq, decide_eq_true_iff]
  · have h2 : ¬ b.cps.size ≤ a.cps.size := by simpa using h
    simp only [TL.tl, Array.length_toList, h2, decide_false, Bool.false_and, false_and]
theorem so_ends : SOm G W (fun x xs H Q => ∃ a b, x = .str a ∧ xs = [.str b] ∧ Q (.bl (Txt.endswith a b)) H) mEnds := by
  intro F ρ μ H σ x o vs as rr Q w rx r h p
  unfold mEnds at h
  split at h
  · cases h
    cases rx with
    | d rx => cases rx with
      | str sa => cases r with
        | cons r t =>
          cases t
          cases r with
          | d r => cases r with
            | str sb => exact ⟨sa, sb, rfl, rfl, by rw [endsL_eq]; exact p.ok w (.d (.bl _))⟩
  · cases h

/-! ### dicts -/
def fDct : Fz Sv := fun _ μ => some (.ok (.c μ.length), μ ++ [.dct []])
theorem z_dct : PE X (.Dict [] [] pos) (zE G W fDct) := peImp pe_dnewK fun σ H Q q => by
  obtain ⟨F, ρ, δ, μ, rr, w, s, e, p⟩ := q
  cases e
  intro q hq
  obtain ⟨w2, g2⟩ := w.newC hq (o := .dK []) (c := .dct []) ⟨w.ex.none hq, [], upd_same, .nil⟩
  exact p _ _ _ _ g2 w2 (.c (by rw [← w.len]; simp))
def putS (kvs : List (Key × Sv)) (k : Key) (v : Sv) : List (Key × Sv) :=
  if (kvs.any fun kv => decide (kv.1 = k)) = true then kvs.map (fun kv => if kv.1 = k then (kv.1, v) else kv) else kvs ++ [(k, v)]
theorem RsK.any {k : Key} : ∀ {vs : List (Key × V)} {xs : List (Key × Sv)}, RsK G F ρ vs xs → (vs.any fun kv => decide (kv.1 = k)) = (xs.any fun kv => decide (kv.1 = k))
  | _, _, .nil => rfl
  | _, _, .cons _ r => by simp only [List.any_cons, RsK.any r]
theorem RsK.mapput {k : Key} {v : V} {y : Sv} (q : Rs G F ρ v y) : ∀ {vs : List (Key × V)} {xs : List (Key × Sv)}, RsK G F ρ vs xs → RsK G F ρ (vs.map fun kv => if kv.1 = k then (kv.1, v) else kv) (xs.map fun kv => if kv.1 = k then (kv.1, y) else kv)
  | _, _, .nil => .nil
  | _, _, .cons (k := k') h r => by
    simp only [List.map_cons]
    by_cases hk : k' = k
    · simp only [hk, if_true]; exact .cons q (RsK.mapput q r)
    · simp only [hk, if_false]; exact .cons h (RsK.mapput q r)
theorem RsK.app : ∀ {v w : List (Key × V)} {x y : List (Key × Sv)}, RsK G F ρ v x → RsK G F ρ w y → RsK G F ρ (v ++ w) (x ++ y)
  | _, _, _, _, .nil, s => s
  | _, _, _, _, .cons h r, s => .cons h (RsK.app r s)
theorem RsK.put {k : Key} {v : V} {y : Sv} (q : Rs G F ρ v y) {vs : List (Key × V)} {xs : List (Key × Sv)} (r : RsK G F ρ vs xs) : RsK G F ρ (putK vs k v) (putS xs k y) := by
  unfold putK putS
  rw [r.any]
  split
  · exact r.mapput q
  · exact r.app (.cons q .nil)
/-- d[k] = v, xs[i] = v -/
def setAt (o i v : Sv) (δ : Dl) (μ : Mu) : Sr := match o with
  | .c n => match μ[n]? with
    | some (.dct kvs) => match keyOf i with
      | some k => if kvs.length < 16777216 then some (.nx, δ, μ.set n (.dct (putS kvs k v))) else none
      | none => none
    | some (.lst xs) => match i with
      | .d (.int i) => match ixN xs.length i with
        | some j => some (.nx, δ, μ.set n (.lst (xs.set j v)))
        | none => none
      | _ => none
    | _ => none
  | _ => none
def sPut (fo fi fv : Fz Sv) : Sz := fun δ μ => eS (fv δ μ) δ fun v μ => eS (fo δ μ) δ fun o μ => eS (fi δ μ) δ fun i μ => setAt o i v δ μ
def rSetD : V → V → V → Hp → (Hp → Prop) → Prop := fun o i v H Q => ∃ a H', o = .ref a ∧ DPut H a i v H' ∧ Q H'
theorem set_dict (hu : X.A.units + 1 < cLine) : PSet X rSetD := by
  intro pins s σ H o i v ov iv u Q I ro ri rv h
  obtain ⟨a, H', rfl, g, q⟩ := h
  obtain rfl : ov = Value.ref a := ro
  exact d_setItem hu I g ri rv fun s4 I4 => ⟨H', I4, q⟩
def rSetZ : V → V → V → Hp → (Hp → Prop) → Prop := fun o i v H Q => rSetL o i v H Q ∨ rSetD o i v H Q
theorem set_Z (hu : X.A.units + 1 < cLine) : PSet X rSetZ := fun pins s σ H o i v ov iv u Q I ro ri rv h =>
  h.elim (set_list pins s σ H o i v ov iv u Q I ro ri rv) (set_dict hu pins s σ H o i v ov iv u Q I ro ri rv)
theorem zs_put (hu : X.A.units + 1 < cLine) (ho : PE X o (zE G W fo)) (hi : PE X b (zE G W fi)) (hv : PE X e (zE G W fv)) (hg : PG X (.Subscript o b pos') (gSub (zE G W fo) (zE G W fi) rSetZ))
    (hs : swapsWithSole [.Subscript o b pos'] e pos.line X.env = pure false := by rfl) (hw : swappedStores [.Subscript o b pos'] e X.env = pure none := by rfl)
    (h1 : (assignEach [.Subscript o b pos'] X.env).map (·.2) = [assign (.Subscript o b pos') X.env] := by rfl) : PS X (.Assign [.Subscript o b pos'] e pos) (zS G W (sPut fo fi fv)) := psImp (ps_asg hv hg hs hw h1) fun D σ H q => by
  obtain ⟨F, ρ, δ, μ, r, w, s, e, p⟩ := q
  refine zstepS w s e p fun sv μ1 v F1 ρ1 H1 g1 w1 s1 rv e1 p1 => ?_
  refine zstepS w1 s1 e1 p1 fun so μ2 ov F2 ρ2 H2 g2 w2 s2 ro e2 p2 => ?_
  refine zstepS w2 s2 e2 p2 fun si μ3 iv F3 ρ3 H3 g3 w3 s3 ri e3 p3 => ?_
  have rv3 := rv.mono (g2.trans g3)
  have ro3 := ro.mono g3
  unfold setAt at e3
  split at e3
  · cases ro3 with
    | c hr =>
      split at e3
      · rename_i kvs hk
        split at e3
        · rename_i k hkey
          split at e3
          · rename_i hl
            cases e3
            obtain ⟨h0, ws, h1', h2⟩ := w3.cell _ _ _ hr hk
            refine .inr ⟨_, _, rfl, ?_, p3.nx rfl (w3.setC hr h0 (show CellOk G F3 ρ3 _ _ (.dct _) from ⟨h0, _, upd_same, h2.put (k := k) rv3⟩)) s3⟩
            rw [keyOf_at ri hkey]
            exact DPut.k h1' (by rw [h2.len, szl]; exact hl)
          · cases e3
        · cases e3
      · rename_i xs hx
        split at e3
        · split at e3
          · rename_i j hj
            cases e3
            obtain ⟨h0, ws, h1', h2⟩ := w3.cell _ _ _ hr hx
            cases ri with
            | d ri =>
              cases ri
              exact .inl ⟨_, ws, _, j, rfl, rfl, h1', by rw [h2.len]; exact hj, p3.nx rfl (w3.setC hr h0 (show CellOk G F3 ρ3 _ _ (.lst _) from ⟨h0, _, upd_same, h2.set rv3 j⟩)) s3⟩
          · cases e3
        · cases e3
      · cases e3
  · cases e3
/-- {k: v, ..} -/
def fPairs : List (Fz Sv × Fz Sv) → Fz (List (Key × Sv))
  | [], _, μ => some (.ok [], μ)
  | (fk, fv) :: r, δ, μ => (fk δ μ).bind fun k μ => (fv δ μ).bind fun v μ => (fPairs r δ μ).bind fun l μ => match keyOf k with
    | some k => some (.ok ((k, v) :: l), μ)
    | none => none
def fDisp (ps : List (Fz Sv × Fz Sv)) : Fz Sv := fun δ μ => (fPairs ps δ (μ ++ [.dct []])).bind fun kvs μ1 => match μ1[μ.length]? with
  | some (.dct []) => if kvs.length ≤ 15 then some (.ok (.c μ.length), μ1.set μ.length (.dct (kvs.foldl (fun acc kv => putS acc kv.1 kv.2) []))) else none
  | _ => none
def zPs (G : Gx) (W : WX) (ps : List (Fz Sv × Fz Sv)) : List (TE × TE) := ps.map fun p => (zE G W p.1, zE G W p.2)
theorem RsK.merge {vs : List (Key × V)} {xs : List (Key × Sv)} (r : RsK G F ρ vs xs) : ∀ {a : List (Key × V)} {b : List (Key × Sv)}, RsK G F ρ a b → RsK G F ρ (mergeK a vs) (xs.foldl (fun acc kv => putS acc kv.1 kv.2) b) := by
  induction r with
  | nil => intro a b h; exact h
  | cons q r ih => intro a b h; exact ih (h.put q)
theorem bind_assoc {α β γ : Type} (r : Rz α) (f : α → Mu → Rz β) (k : β → Mu → Rz γ) : (r.bind f).bind k = r.bind fun a μ => (f a μ).bind k := by
  cases r with
  | none => rfl
  | some q => obtain ⟨q, μ⟩ := q; cases q <;> rfl
theorem fPairs_cons (fk fv : Fz Sv) (ps : List (Fz Sv × Fz Sv)) (δ : Dl) (μ : Mu) : fPairs ((fk, fv) :: ps) δ μ = (fk δ μ).bind fun k μ => (fv δ μ).bind fun v μ => (fPairs ps δ μ).bind fun l μ => match keyOf k with
    | some k => some (.ok ((k, v) :: l), μ)
    | none => none := rfl
theorem pairs_at {σ : L2.St} {δ : Dl} : ∀ {ps : List (Fz Sv × Fz Sv)} {F : Hp} {ρ : List Addr} {μ : Mu} {H : Hp} {k : List (Key × Sv) → Mu → Rz Sv} {r : Except Exn Sv × Mu} {Q : VK} {R : List (V × V) → Hp → Prop}, Wf G F ρ μ H → Sl G F ρ σ δ → (fPairs ps δ μ).bind k = some r → Post G W σ F ρ (Rs G) Q r →
    (∀ kvs μ1 (vs : List (Key × V)) F1 ρ1 H1, Gr F F1 ρ ρ1 → Wf G F1 ρ1 μ1 H1 → RsK G F1 ρ1 vs kvs → k kvs μ1 = some r → Post G W σ F1 ρ1 (Rs G) Q r → R (vs.map fun kv => (kV kv.1, kv.2)) H1) → tPairs (zPs G W ps) σ H R
  | [], F, ρ, μ, H, k, r, Q, R, w, s, e, p, cont => cont [] μ [] F ρ H (Gr.refl F ρ) w .nil e p
  | (fk, fv) :: ps, F, ρ, μ, H, k, r, Q, R, w, s, e, p, cont => by
    rw [fPairs_cons, bind_assoc] at e
    refine zstep w s e p fun kk μ1 kx F1 ρ1 H1 g1 w1 s1 rk e1 p1 => ?_
    rw [bind_assoc] at e1
    refine zstep w1 s1 e1 p1 fun v μ2 vx F2 ρ2 H2 g2 w2 s2 rv e2 p2 => ?_
    rw [bind_assoc] at e2
    refine pairs_at w2 s2 e2 p2 fun l μ3 vs F3 ρ3 H3 g3 w3 rl e3 p3 => ?_
    cases hk : keyOf kk with
    | none => rw [hk] at e3; cases e3
    | some key =>
      rw [hk] at e3
      have hkx := keyOf_at rk hk
      subst hkx
      exact cont ((key, v) :: l) μ3 ((key, vx) :: vs) F3 ρ3 H3 ((g1.trans g2).trans g3) w3 (.cons (rv.mono g3) rl) e3 p3
theorem z_disp {ps : List (Fz Sv × Fz Sv)} {keys : List (Option Expr)} {values : List Expr} (h : PPs X pos keys values (zPs G W ps)) (hall : keys.all (·.isSome) = true := by rfl) (hl : keys.length = values.length := by rfl) (h0 : keys ≠ [] := by (intro z; cases z))
    (h15 : keys.length ≤ 15 := by decide) : PE X (.Dict keys values pos) (zE G W (fDisp ps)) := peImp (pe_disp h hall hl h0 h15) fun σ H Q q => by
  obtain ⟨F, ρ, δ, μ, rr, w, s, e, p⟩ := q
  intro d hd
  obtain ⟨w2, g2⟩ := w.newC hd (o := .dK []) (c := .dct []) ⟨w.ex.none hd, [], upd_same, .nil⟩
  refine pairs_at w2 (s.mono g2) e (p.mono g2) fun kvs μ1 vs F1 ρ1 H1 g1 w1 rk e1 p1 => ?_
  have nD : ρ1[μ.length]? = some d := g1.at (by rw [← w.len]; simp)
  split at e1
  · rename_i hc
    split at e1
    · rename_i hl15
      cases e1
      obtain ⟨c0, ws, c1, c2⟩ := w1.cell _ _ _ nD hc
      cases c2
      refine ⟨c1, vs, rfl, by rw [rk.len]; exact hl15, ?_⟩
      exact p1.ok (w1.setC nD c0 (show CellOk G F1 ρ1 _ _ (.dct _) from ⟨c0, _, upd_same, rk.merge .nil⟩)) (.c nD)
    · cases e1
  · cases e1
theorem zp_nil : PPs X pos [] [] (zPs G W []) := pps_nil
theorem zp_cons {k v : Expr} {ks : List (Option Expr)} {vs : List Expr} {fk fv : Fz Sv} {r : List (Fz Sv × Fz Sv)} (hk : PE X k (zE G W fk)) (hv : PE X v (zE G W fv)) (hr : PPs X pos ks vs (zPs G W r)) : PPs X pos (some k :: ks) (v :: vs) (zPs G W ((fk, fv) :: r)) := pps_cons hk hv hr

/-! ### several targets -/
/-- a, b, .. = e -/
def sAsg (g : Tz) (fa : Fz Sv) : Sz := fun δ μ => eS (fa δ μ) δ fun v μ => match g v δ with
  | some δ' => some (.nx, δ', μ)
  | none => none
theorem zs_asg {t : TG} {g : Tz} {js : List Nat} (zg : ZG G js t g) (hg : PG X tg t) (ha : PE X e (zE G W fa)) (hs : swapsWithSole [tg] e pos.line X.env = pure false := by rfl) (hw : swappedStores [tg] e X.env = pure none := by rfl)
    (h1 : (assignEach [tg] X.env).map (·.2) = [assign tg X.env] := by rfl) : PS X (.Assign [tg] e pos) (zS G W (sAsg g fa)) := psImp (ps_asg ha hg hs hw h1) fun D σ H q => by
  obtain ⟨F, ρ, δ, μ, r, w, s, e, p⟩ := q
  refine zstepS w s e p fun sv μ1 v F1 ρ1 H1 g1 w1 s1 rv e1 p1 => ?_
  split at e1
  · rename_i δ' hg'
    cases e1
    exact zg.ok F1 ρ1 μ1 H1 σ δ δ' v sv _ w1 s1 rv hg' fun σ' _ s' => p1.nx rfl w1 s'
  · cases e1
/-- a, b = e1, e2 -/
def sPar (i j : Nat) (fr : Fz (List Sv)) : Sz := fun δ μ => eS (fr δ μ) δ fun as μ => match as with
  | [v, w] => some (.nx, (δ.set i (some v)).set j (some w), μ)
  | _ => none
theorem zs_par {i j : Nat} {x y : Str} {px py pt : Pos} {kt k2 pt2} (hc : X.calm = true) (hN : X.N.Nodup) (hi : X.N[i]? = some x) (hj : X.N[j]? = some y) (hij : i ≠ j)
    (hx : X.env.scope.names.lookup x = some .local) (hy : X.env.scope.names.lookup y = some .local) (ha : PA X [a, b] (zA G W fr))
    (hw : swappedStores [.Tuple [.Name x px, .Name y py] kt pt] (.Tuple [a, b] k2 pt2) X.env = pure (some [x, y]))
    (hs : swapsWithSole [.Tuple [.Name x px, .Name y py] kt pt] (.Tuple [a, b] k2 pt2) pos.line X.env = pure false := by rfl) :
    PS X (.Assign [.Tuple [.Name x px, .Name y py] kt pt] (.Tuple [a, b] k2 pt2) pos) (zS G W (sPar i j fr)) := psImp (ps_par hc hN hi hj hij hx hy ha hw hs) fun D σ H q => by
  obtain ⟨F, ρ, δ, μ, r, w, s, e, p⟩ := q
  refine zstepS w s e p fun as μ1 vs F1 ρ1 H1 g1 w1 s1 rv e1 p1 => ?_
  split at e1
  · cases e1
    cases rv with
    | cons r1 t => cases t with
      | cons r2 t => cases t; exact ⟨_, _, rfl, p1.nx rfl w1 ((s1.set r1 i).set r2 j)⟩
  · cases e1
/-- a slot's cell is changed no more -/
noncomputable def sFz (i : Nat) (S : Sz) : Sz := fun δ μ => match δ[i]? with
  | some (some (.c n)) => match frzV μ (.c n) μ with
    | some (.ok v, μ') => S (δ.set i (some v)) μ'
    | _ => none
  | _ => S δ μ
end
end Z
namespace Z
open PySem PySem.Spec PyProof.Rows L2
/-- what the top says of a def -/
structure GFn (P : Program) (w : World) (G : Gx) (mg : Str → Option Value) (base : Heap) (x : Str) (k : Nat) (fn : Fn) (dds : List D) : Prop where
  ok : ∃ f fd ps ds dvs, mg x = some (.ref f) ∧ PySem.W.keepIn G.K (.ref f) = true ∧ FnOk P w G.K mg base (L2.CX P w) k f fd ps (spF G fn) ∧ Binds G.K fd ps ds ∧ Vals dvs ds ∧ ∀ F, RpL G F dvs dds
theorem GFn.of {P : Program} {w : World} {G : Gx} {mg : Str → Option Value} {base : Heap} {x : Str} {k : Nat} {fn : Fn} {f : Addr} {fd : FuncData} {ps : List Str} (hm : mg x = some (.ref f)) (hk : PySem.W.keepIn G.K (.ref f) = true)
    (ok : FnOk P w G.K mg base (L2.CX P w) k f fd ps (spF G fn)) (b : Binds G.K fd ps []) : GFn P w G mg base x k fn [] := ⟨f, fd, ps, [], [], hm, hk, ok, b, .nil, fun _ => .nil⟩
theorem GFn.mono {P : Program} {w : World} {G : Gx} {mg : Str → Option Value} {base : Heap} {x : Str} {j k : Nat} {fn : Fn} {dds : List D} (g : GFn P w G mg base x j fn dds) (h : j ≤ k) : GFn P w G mg base x k fn dds := by
  obtain ⟨f, fd, ps, ds, dvs, a, b, c, d⟩ := g
  exact ⟨f, fd, ps, ds, dvs, a, b, c.mono h, d⟩
section
variable {G : Gx} {X : Cx} {W : WX} {k : Nat} {fn : Fn} {dds : List D} {x : Str} {p pos : Pos} {e : Expr} {es : List Expr} {fr : Fz (List Sv)}
theorem z_g (g : GFn X.prog X.w G X.mg X.base x k fn dds) (hK : G.K = X.K) (hr : Room k X.A) (px : Pz X W) (hg : Gl X x) (ha : PA X (e :: es) (zA G W fr)) (hdb : (x == ("__debug__" : Str)) = false := by decide)
    (he : starEach (e :: es) X.env = (false, eval e X.env) :: starEach es X.env := by rfl) (hpl : (backTo pos (starEach es X.env)).any (·.1) = false := by rfl) : PE X (.Call (.Name x p) (e :: es) [] pos) (zE G W (fCall fn dds fr)) := by
  obtain ⟨f, fd, ps, ds, dvs, a, b, c, d, e1, e2⟩ := g
  rw [hK] at b c d
  exact z_call c hr hg a b d e1 e2 px ha hdb he hpl
theorem z_g0 (g : GFn X.prog X.w G X.mg X.base x k fn dds) (hK : G.K = X.K) (hr : Room k X.A) (px : Pz X W) (hg : Gl X x) (hdb : (x == ("__debug__" : Str)) = false := by decide) : PE X (.Call (.Name x p) [] [] pos) (zE G W (fCall fn dds fNil)) := by
  obtain ⟨f, fd, ps, ds, dvs, a, b, c, d, e1, e2⟩ := g
  rw [hK] at b c d
  exact z_call0 c hr hg a b d e1 e2 px hdb
end
/-- the law's own end: at the script (a tree) the function gives True -/
theorem law_sp {G : Gx} {fn : Fn} {H : Hp} {a : Addr} {ns : List Int} (hO : L2.Only H) (hS : SqL G.K H a (ns.map V.int)) (h : ∃ μ', fn [.d (.lst (ns.map D.int))] [] = some (.ok (.d (.bl true)), μ')) :
    spF G fn [.ref a] H (fun v _ => v = .bl true) (fun _ _ _ => False) := by
  obtain ⟨μ', h⟩ := h
  refine ⟨H, [], [], [.d (.lst (ns.map D.int))], _, ⟨Ex.refl H, rfl, List.nodup_nil, fun n a c h1 => by simp at h1, fun a ha => by simp at ha⟩, .cons (.d (.lst hS ?_)) .nil, h, fun v F' ρ' H' g w r => ?_⟩
  · clear hS h
    induction ns with
    | nil => exact .nil
    | cons n r ih => exact .cons (.int n) ih
  · cases r with
    | d r => cases r; rfl
theorem cx_never {P : Program} {w : World} {H : Hp} {s : Shared} {e : Value} {s' : Shared} (h : L2.CX P w [] H s (fun _ _ _ => False) e s') : False := by
  obtain ⟨_, _, _, _, _, _, _, _, _, _, _, _, z⟩ := h
  exact z
end Z
namespace Z
open PySem PySem.Spec PyProof.Rows L2
section
variable {G : Gx} {X : Cx} {W : WX} {a b c d : Expr} {fa fb fc fd : Fz Sv} {pos : Pos} {op op' op'' : CmpOp} {r r' r'' : R2} {o o' o'' : Op2}
/-- behind a link's answer -/
def lnk (v : Sv) (μ : Mu) (k : Mu → Rz Sv) : Rz Sv := match v with
  | .d (.bl true) => k μ
  | .d (.bl false) => okz (.bl false) μ
  | _ => none
def fCh (o o' : Op2) (fa fb fc : Fz Sv) : Fz Sv := fun δ μ => (fa δ μ).bind fun a μ => (fb δ μ).bind fun b μ => (o a b μ).bind fun v μ => lnk v μ fun μ => (fc δ μ).bind fun c μ => o' b c μ
/-- an operation that answers at once, in the middle -/
theorem so_mid {σ : L2.St} {F : Hp} {ρ : List Addr} {μ : Mu} {H : Hp} {x y : V} {sa sb : Sv} {k : Sv → Mu → Rz Sv} {rr : Except Exn Sv × Mu} {Q Q2 : VK} (so : SOp2 G W r o) (w : Wf G F ρ μ H) (rx : Rs G F ρ x sa) (ry : Rs G F ρ y sb) (e : (o sa sb μ).bind k = some rr) (p : Post G W σ F ρ (Rs G) Q2 rr)
    (cont : ∀ v μ1 z F1 ρ1 H1, Gr F F1 ρ ρ1 → Wf G F1 ρ1 μ1 H1 → Rs G F1 ρ1 z v → k v μ1 = some rr → Post G W σ F1 ρ1 (Rs G) Q2 rr → Q z H1) : r x y H Q := by
  cases h : o sa sb μ with
  | none => rw [h] at e; cases e
  | some q =>
    obtain ⟨q, μ1⟩ := q
    rw [h] at e
    cases q with
    | error z => cases e; exact so F ρ μ H σ x y sa sb _ Q w rx ry h p
    | ok v => exact so F ρ μ H σ x y sa sb _ Q w rx ry h fun z F1 ρ1 H1 g1 w1 r1 => cont v μ1 z F1 ρ1 H1 g1 w1 r1 e (p.mono g1)
theorem ch_reads (so : SOp2 G W r o) (so' : SOp2 G W r' o') {σ : L2.St} {H : Hp} {Q : VK} (q : zE G W (fCh o o' fa fb fc) σ H Q) : tChain r r' (zE G W fa) (zE G W fb) (zE G W fc) σ H Q := by
  obtain ⟨F, ρ, δ, μ, rr, w, s, e, p⟩ := q
  refine zstep w s e p fun sa μ1 x F1 ρ1 H1 g1 w1 s1 rx e1 p1 => ?_
  refine zstep w1 s1 e1 p1 fun sb μ2 y F2 ρ2 H2 g2 w2 s2 ry e2 p2 => ?_
  refine so_mid so w2 (rx.mono g2) ry e2 p2 fun v μ3 z F3 ρ3 H3 g3 w3 rz e3 p3 => ?_
  unfold lnk at e3
  split at e3
  · cases rz with
    | d rz =>
      cases rz
      refine ⟨true, rfl, ?_⟩
      rw [if_pos rfl]
      refine zstep w3 (s2.mono g3) e3 p3 fun sc μ4 u F4 ρ4 H4 g4 w4 s4 ru e4 p4 => ?_
      exact so' F4 ρ4 μ4 H4 σ y u sb sc rr Q w4 (ry.mono (g3.trans g4)) ru e4 p4
  · cases rz with
    | d rz =>
      cases rz
      cases e3
      exact ⟨false, rfl, by rw [if_neg Bool.false_ne_true]; exact p3.ok w3 (.d (.bl false))⟩
  · cases e3
theorem z_ch (ho : OpR X (compareOp op) r) (so : SOp2 G W r o) (ho' : OpR X (compareOp op') r') (so' : SOp2 G W r' o') (ha : PE X a (zE G W fa)) (hb : PE X b (zE G W fb)) (hc : PE X c (zE G W fc))
    (hm : lastMarks [op, op'] [b, c] = false := by with_unfolding_all rfl) : PE X (.Compare a [op, op'] [b, c] pos) (zE G W (fCh o o' fa fb fc)) := peImp (pe_chain ho ho' ha hb hc hm) fun _ _ _ q => ch_reads so so' q
theorem zt_ch (ho : OpR X (compareOp op) r) (so : SOp2 G W r o) (ho' : OpR X (compareOp op') r') (so' : SOp2 G W r' o') (ha : PE X a (zE G W fa)) (hb : PE X b (zE G W fb)) (hc : PE X c (zE G W fc))
    (hm : lastMarks [op, op'] [b, c] = false := by with_unfolding_all rfl) : PT X (.Compare a [op, op'] [b, c] pos) (zT G W (fT (fCh o o' fa fb fc))) := ptImp (pt_chain ho ho' ha hb hc hm) fun _ _ _ q => zT_of (fun _ _ _ q => ch_reads so so' q) q
/-- three links -/
def fCh3 (o o' o'' : Op2) (fa fb fc fd : Fz Sv) : Fz Sv := fun δ μ => (fa δ μ).bind fun a μ => (fb δ μ).bind fun b μ => (o a b μ).bind fun v μ => lnk v μ fun μ => (fc δ μ).bind fun c μ => (o' b c μ).bind fun v μ => lnk v μ fun μ => (fd δ μ).bind fun d μ => o'' c d μ
def tCh3 (r r' r'' : R2) (ta tb tc td : TE) : TE := fun σ H Q => ta σ H fun x H1 => tb σ H1 fun y H2 => r x y H2 fun z H3 => ∃ k, z = .bl k ∧
  (if k = true then tc σ H3 fun u H4 => r' y u H4 fun z2 H5 => ∃ k2, z2 = .bl k2 ∧ (if k2 = true then td σ H5 fun t H6 => r'' u t H6 Q else Q (.bl false) H5) else Q (.bl false) H3)
theorem ch3_reads (so : SOp2 G W r o) (so' : SOp2 G W r' o') (so'' : SOp2 G W r'' o'') {σ : L2.St} {H : Hp} {Q : VK} (q : zE G W (fCh3 o o' o'' fa fb fc fd) σ H Q) : tCh3 r r' r'' (zE G W fa) (zE G W fb) (zE G W fc) (zE G W fd) σ H Q := by
  obtain ⟨F, ρ, δ, μ, rr, w, s, e, p⟩ := q
  refine zstep w s e p fun sa μ1 x F1 ρ1 H1 g1 w1 s1 rx e1 p1 => ?_
  refine zstep w1 s1 e1 p1 fun sb μ2 y F2 ρ2 H2 g2 w2 s2 ry e2 p2 => ?_
  refine so_mid so w2 (rx.mono g2) ry e2 p2 fun v μ3 z F3 ρ3 H3 g3 w3 rz e3 p3 => ?_
  unfold lnk at e3
  split at e3
  · cases rz with
    | d rz =>
      cases rz
      refine ⟨true, rfl, ?_⟩
      rw [if_pos rfl]
      refine zstep w3 (s2.mono g3) e3 p3 fun sc μ4 u F4 ρ4 H4 g4 w4 s4 ru e4 p4 => ?_
      refine so_mid so' w4 (ry.mono (g3.trans g4)) ru e4 p4 fun v2 μ5 z2 F5 ρ5 H5 g5 w5 rz2 e5 p5 => ?_
      unfold lnk at e5
      split at e5
      · cases rz2 with
        | d rz2 =>
          cases rz2
          refine ⟨true, rfl, ?_⟩
          rw [if_pos rfl]
          refine zstep w5 (s4.mono g5) e5 p5 fun sd μ6 t F6 ρ6 H6 g6 w6 s6 rt e6 p6 => ?_
          exact so'' F6 ρ6 μ6 H6 σ u t sc sd rr Q w6 (ru.mono (g5.trans g6)) rt e6 p6
      · cases rz2 with
        | d rz2 =>
          cases rz2
          cases e5
          exact ⟨false, rfl, by rw [if_neg Bool.false_ne_true]; exact p5.ok w5 (.d (.bl false))⟩
      · cases e5
  · cases rz with
    | d rz =>
      cases rz
      cases e3
      exact ⟨false, rfl, by rw [if_neg Bool.false_ne_true]; exact p3.ok w3 (.d (.bl false))⟩
  · cases e3
theorem pe_ch3 {ta tb tc td : TE} (ho : OpR X (compareOp op) r) (ho' : OpR X (compareOp op') r') (ho'' : OpR X (compareOp op'') r'') (ha : PE X a ta) (hb : PE X b tb) (hc : PE X c tc) (hd : PE X d td)
    (hm : lastMarks [op, op', op''] [b, c, d] = false := by with_unfolding_all rfl) : PE X (.Compare a [op, op', op''] [b, c, d] pos) (tCh3 r r' r'' ta tb tc td) := ⟨fun pins s σ H Q I h => by
  refine Compare_chain (thn (ha.run pins s σ H _ I h) fun v s1 ⟨x, H1, I1, r1, q1⟩ => chain_link (thn (hb.run pins s1 σ H1 _ I1 q1) fun u s2 ⟨y, H2, I2, r2, q2⟩ => thn (ho pins s2 σ H2 x y v u _ I2 r1 r2 q2) fun w1 s3 ⟨z, H3, I3, r3, k, e, q3⟩ => ?_)) hm
  subst e
  cases r3
  refine wpAny_truthy_bool ?_
  cases k with
  | false => exact ite_ff ⟨.bl false, H3, I3, rfl, q3⟩
  | true =>
    refine ite_tt (chain_link (thn (hc.run pins s3 σ H3 _ I3 q3) fun u2 s4 ⟨z', H4, I4, r4, q4⟩ => thn (ho' pins s4 σ H4 y z' u u2 _ I4 r2 r4 q4) fun w2 s5 ⟨z2, H5, I5, r5, k2, e2, q5⟩ => ?_))
    subst e2
    cases r5
    refine wpAny_truthy_bool ?_
    cases k2 with
    | false => exact ite_ff ⟨.bl false, H5, I5, rfl, q5⟩
    | true => exact ite_tt (chain_last (thn (hd.run pins s5 σ H5 _ I5 q5) fun u3 s6 ⟨t, H6, I6, r6, q6⟩ => ho'' pins s6 σ H6 z' t u2 u3 Q I6 r4 r6 q6))⟩
theorem pt_ch3 {ta tb tc td : TE} (ho : OpR X (compareOp op) r) (ho' : OpR X (compareOp op') r') (ho'' : OpR X (compareOp op'') r'') (ha : PE X a ta) (hb : PE X b tb) (hc : PE X c tc) (hd : PE X d td)
    (hm : lastMarks [op, op', op''] [b, c, d] = false := by with_unfolding_all rfl) : PT X (.Compare a [op, op', op''] [b, c, d] pos) (tTest (tCh3 r r' r'' ta tb tc td)) := ⟨fun pins s σ H Q I h => by
  refine isTrue_chain (thn (ha.run pins s σ H _ I h) fun v s1 ⟨x, H1, I1, r1, q1⟩ => test_link (thn (hb.run pins s1 σ H1 _ I1 q1) fun u s2 ⟨y, H2, I2, r2, q2⟩ => thn (ho pins s2 σ H2 x y v u _ I2 r1 r2 q2) fun w1 s3 ⟨z, H3, I3, r3, k, e, q3⟩ => ?_)) hm
  subst e
  cases r3
  refine wpAny_truthy_bool ?_
  cases k with
  | false =>
    obtain ⟨k', e', q'⟩ := q3
    cases e'
    exact ite_ff ⟨H3, I3, q'⟩
  | true =>
    refine ite_tt (test_link (thn (hc.run pins s3 σ H3 _ I3 q3) fun u2 s4 ⟨z', H4, I4, r4, q4⟩ => thn (ho' pins s4 σ H4 y z' u u2 _ I4 r2 r4 q4) fun w2 s5 ⟨z2, H5, I5, r5, k2, e2, q5⟩ => ?_))
    subst e2
    cases r5
    refine wpAny_truthy_bool ?_
    cases k2 with
    | false =>
      obtain ⟨k', e', q'⟩ := q5
      cases e'
      exact ite_ff ⟨H5, I5, q'⟩
    | true =>
      refine ite_tt (test_last (thn (hd.run pins s5 σ H5 _ I5 q5) fun u3 s6 ⟨t, H6, I6, r6, q6⟩ => thn (ho'' pins s6 σ H6 z' t u2 u3 _ I6 r4 r6 q6) fun w3 s7 ⟨z3, H7, I7, r7, k3, e3, q7⟩ => ?_))
      subst e3
      cases r7
      exact wpAny_truthy_bool ⟨H7, I7, q7⟩⟩
theorem z_ch3 (ho : OpR X (compareOp op) r) (so : SOp2 G W r o) (ho' : OpR X (compareOp op') r') (so' : SOp2 G W r' o') (ho'' : OpR X (compareOp op'') r'') (so'' : SOp2 G W r'' o'') (ha : PE X a (zE G W fa)) (hb : PE X b (zE G W fb)) (hc : PE X c (zE G W fc)) (hd : PE X d (zE G W fd))
    (hm : lastMarks [op, op', op''] [b, c, d] = false := by with_unfolding_all rfl) : PE X (.Compare a [op, op', op''] [b, c, d] pos) (zE G W (fCh3 o o' o'' fa fb fc fd)) := peImp (pe_ch3 ho ho' ho'' ha hb hc hd hm) fun _ _ _ q => ch3_reads so so' so'' q
theorem zt_ch3 (ho : OpR X (compareOp op) r) (so : SOp2 G W r o) (ho' : OpR X (compareOp op') r') (so' : SOp2 G W r' o') (ho'' : OpR X (compareOp op'') r'') (so'' : SOp2 G W r'' o'') (ha : PE X a (zE G W fa)) (hb : PE X b (zE G W fb)) (hc : PE X c (zE G W fc)) (hd : PE X d (zE G W fd))
    (hm : lastMarks [op, op', op''] [b, c, d] = false := by with_unfolding_all rfl) : PT X (.Compare a [op, op', op''] [b, c, d] pos) (zT G W (fT (fCh3 o o' o'' fa fb fc fd))) := ptImp (pt_ch3 ho ho' ho'' ha hb hc hd hm) fun _ _ _ q => zT_of (fun _ _ _ q => ch3_reads so so' so'' q) q
end
end Z
namespace Z
open PySem PySem.Spec PyProof.Rows L2
section
variable {G : Gx} {X : Cx} {W : WX} {F : Hp} {ρ : List Addr} {μ : Mu} {H : Hp} {a b c e o tg iter elt : Expr} {es : List Expr} {fa fb fo fi fv : Fz Sv} {fr : Fz (List Sv)} {pos p2 p apos cpos : Pos} {x : Str} {id T : String} {body : List Stmt} {t : TG} {g : Tz} {S : Sz} {js : List Nat}
/-! ### what is never reached needs no reading -/
def fStk : Fz Sv := fun _ _ => none
def sStk : Sz := fun _ _ => none
theorem z_stk : PE X e (zE G W fStk) := ⟨fun pins s σ H Q I q => by
  obtain ⟨F, ρ, δ, μ, r, w, s, e, p⟩ := q
  cases e⟩
theorem zs_stk {st : Stmt} : PS X st (zS G W sStk) := ⟨fun pins s σ H D I q => by
  obtain ⟨F, ρ, δ, μ, r, w, s, e, p⟩ := q
  cases e⟩
/-! ### a cell walked while it stays as it is -/
open Classical in
noncomputable def forLC (n : Nat) (all : List Sv) (g : Tz) (S : Sz) : List Sv → Sz
  | [], δ, μ => if μ[n]? = some (.lst all) then some (.nx, δ, μ) else none
  | x :: xs, δ, μ => if μ[n]? = some (.lst all) then (match g x δ with
    | none => none
    | some δ1 => match S δ1 μ with
      | some (.nx, δ2, μ2) => forLC n all g S xs δ2 μ2
      | some (.ct, δ2, μ2) => forLC n all g S xs δ2 μ2
      | some (.bk, δ2, μ2) => some (.nx, δ2, μ2)
      | r => r) else none
noncomputable def sForC (fa : Fz Sv) (g : Tz) (S : Sz) : Sz := fun δ μ => eS (fa δ μ) δ fun v μ => match v with
  | .c n => match μ[n]? with
    | some (.lst xs) => forLC n xs g S xs δ μ
    | _ => none
  | _ => none
theorem walk_cell {n : Nat} {l : Addr} {xs : List Sv} (w : Wf G F ρ μ H) (hr : ρ[n]? = some l) (hx : μ[n]? = some (.lst xs)) (i : Nat) :
    (xs.length ≤ i → (Itl G.K l).stop i H) ∧ ∀ y, xs[i]? = some y → (Itl G.K l).go i H ∧ ∀ x H'', (Itl G.K l).yld i H x H'' → H'' = H ∧ Rs G F ρ x y := by
  obtain ⟨_, vs, h1, h2⟩ := w.cell _ _ _ hr hx
  have r1 : SqL G.K H l vs := SqL.of h1
  have hl := h2.len
  refine ⟨fun hi => ⟨vs, r1, by rw [hl]; exact hi⟩, fun y hy => ?_⟩
  obtain ⟨u, hu, ru⟩ := RsL.get h2 hy
  refine ⟨⟨vs, u, r1, hu⟩, fun x H'' ⟨e1, hx⟩ => ⟨e1, ?_⟩⟩
  have := hx vs r1
  rw [hu] at this; cases this
  exact ru
theorem zs_forC (hK : G.K = X.K) (hp : PassesOwn (model X.prog X.w) X.A X.env X.xe) (hc : X.calm = true) (ha : PE X iter (zE G W fa)) (hg : PG X tg t) (zg : ZG G js t g) (hb : PSs X body (zS G W S)) (hs : ∀ x, foldedSetIterable iter X.env x = pure x := by intro _; rfl) :
    PS X (.For tg iter body [] pos) (zS G W (sForC fa g S)) := psImp (ps_for hp hc (pi_list ha) hg hb hs) fun D σ H q => by
  obtain ⟨F, ρ, δ, μ, r, w, s, e, p⟩ := q
  refine zstepS w s e p fun sv μ1 v F1 ρ1 H1 g1 w1 s1 rv e1 p1 => ?_
  cases sv with
  | d x => cases e1
  | c n =>
    cases rv with
    | c hr =>
    rename_i l
    dsimp only at e1
    split at e1
    case h_2 => cases e1
    rename_i items hx
    refine ⟨l, rfl, ?_, ?_⟩
    · obtain ⟨_, vs, h1, h2⟩ := w1.cell _ _ _ hr hx
      exact ⟨_, by rw [← hK]; exact SqL.of h1⟩
    rw [← hK]
    refine ⟨fun i m σ' H' => m = items.length - i ∧ i ≤ items.length ∧ ∃ F' ρ' δ' μ', Gr F1 F' ρ1 ρ' ∧ Wf G F' ρ' μ' H' ∧ Sl G F' ρ' σ' δ' ∧ forLC n items g S (items.drop i) δ' μ' = some r,
      ⟨items.length, rfl, Nat.zero_le _, F1, ρ1, δ, μ1, Gr.refl _ _, w1, s1, e1⟩, ?_⟩
    rintro i m σ' H' ⟨rfl, hi, F', ρ', δ', μ', g', w', s', e'⟩
    have hr' : ρ'[n]? = some l := g'.at hr
    by_cases hlt : i < items.length
    · have hd : items.drop i = items[i] :: items.drop (i + 1) := List.drop_eq_getElem_cons hlt
      rw [hd] at e'
      unfold forLC at e'
      split at e'
      case isFalse => cases e'
      rename_i hx'
      obtain ⟨go, yl⟩ := (walk_cell w' hr' hx' i).2 items[i] (List.getElem?_eq_getElem hlt)
      refine .inr ⟨go, fun σ2 H2 => ∃ F2 ρ2 δ2 μ2, Gr F1 F2 ρ1 ρ2 ∧ Wf G F2 ρ2 μ2 H2 ∧ Sl G F2 ρ2 σ2 δ2 ∧ forLC n items g S (items.drop (i + 1)) δ2 μ2 = some r, fun σ2 H2 ⟨F2, ρ2, δ2, μ2, g2, w2, s2, e2⟩ => ⟨items.length - (i + 1), by omega, rfl, hlt, F2, ρ2, δ2, μ2, g2, w2, s2, e2⟩, fun x H2 hy => ?_⟩
      obtain ⟨eH, rx⟩ := yl x H2 hy
      subst eH
      cases hg : g items[i] δ' with
      | none => simp [hg] at e'
      | some δ1 =>
        simp only [hg] at e'
        refine zg.ok F' ρ' μ' H2 σ' δ' δ1 x _ _ w' s' rx hg fun σ3 _ s3 => ?_
        cases hS : S δ1 μ' with
        | none => simp [hS] at e'
        | some q =>
          obtain ⟨fl, δ4, μ4⟩ := q
          refine ⟨F', ρ', δ1, μ', _, w', s3, hS, ?_⟩
          cases fl with
          | nx => simp only [hS] at e'; exact fun σ5 F5 ρ5 H5 g5 w5 s5 => ⟨F5, ρ5, δ4, μ4, g'.trans g5, w5, s5, e'⟩
          | ct => simp only [hS] at e'; exact fun σ5 F5 ρ5 H5 g5 w5 s5 => ⟨F5, ρ5, δ4, μ4, g'.trans g5, w5, s5, e'⟩
          | bk => simp only [hS] at e'; cases e'; exact fun σ5 F5 ρ5 H5 g5 w5 s5 => p1 σ5 F5 ρ5 H5 (g'.trans g5) w5 s5
          | rt v => simp only [hS] at e'; cases e'; exact fun a F5 ρ5 H5 g5 w5 s5 => p1 a F5 ρ5 H5 (g'.trans g5) w5 s5
          | ex v => simp only [hS] at e'; cases e'; exact fun c d σ5 F5 ρ5 H5 g5 w5 s5 => p1 c d σ5 F5 ρ5 H5 (g'.trans g5) w5 s5
    · have hi' : items.length ≤ i := by omega
      rw [List.drop_eq_nil_of_le hi'] at e'
      unfold forLC at e'
      split at e'
      case isFalse => cases e'
      rename_i hx'
      refine .inl ⟨(walk_cell w' hr' hx' i).1 hi', ?_⟩
      cases e'
      exact p1 σ' F' ρ' H' g' w' s'
/-! ### comprehensions over a cell -/
open Classical in
noncomputable def lcLC (m : Nat) (all : List Sv) (g : Tz) (c : Fz Bool) (e : Fz Sv) (n : Nat) (δ : Dl) : List Sv → Mu → Option Mu
  | [], μ => if μ[m]? = some (.lst all) then some μ else none
  | x :: xs, μ => if μ[m]? = some (.lst all) then (match g x δ with
    | none => none
    | some δ1 => match c δ1 μ with
      | some (.ok true, μ1) => match e δ1 μ1 with
        | some (.ok y, μ2) => match μ2[n]? with
          | some (.lst acc) => if acc.length < 16777216 then lcLC m all g c e n δ xs (μ2.set n (.lst (acc ++ [y]))) else none
          | _ => none
        | _ => none
      | some (.ok false, μ1) => lcLC m all g c e n δ xs μ1
      | _ => none) else none
noncomputable def fLcK (fa : Fz Sv) (vs : List Nat) (g : Tz) (c : Fz Bool) (e : Fz Sv) : Fz Sv := fun δ μ => (fa δ μ).bind fun v μ => match v with
  | .c m => match μ[m]? with
    | some (.lst xs) => match lcLC m xs g c e μ.length (wipeZ δ vs) xs (μ ++ [.lst []]) with
      | some μ' => some (.ok (.c μ.length), μ')
      | none => none
    | _ => none
  | _ => none
variable {ifs : List Expr} {fc : Fz Bool} {fe : Fz Sv} {scope : Scope} {own : List (Str × Nat)}
theorem lck_reads (hK : G.K = X.K) (zg : ZG G js t g) (hj : ∀ j ∈ js, j ∈ own.map (·.2)) {σ : L2.St} {H : Hp} {Q : VK} (q : zE G W (fLcK fa (own.map (·.2)) g fc fe) σ H Q) : tLc (iList X.K (zE G W fa)) t (zT G W0 fc) (zE G W0 fe) (own.map (·.2)) σ H Q := by
  obtain ⟨F, ρ, δ, μ, r, w, s, e, p⟩ := q
  refine zstep w s e p fun sv μ1 v F1 ρ1 H1 g1 w1 s1 rv e1 p1 => ?_
  cases sv with
  | d x => cases e1
  | c k =>
  cases rv with
  | c hr =>
  rename_i l
  dsimp only at e1
  split at e1
  case h_2 => cases e1
  rename_i items hx
  refine ⟨l, rfl, ?_, ?_⟩
  · obtain ⟨_, vs, h1, h2⟩ := w1.cell _ _ _ hr hx
    exact ⟨_, by rw [← hK]; exact SqL.of h1⟩
  rw [← hK]
  intro Dn hD
  split at e1
  case h_2 => cases e1
  rename_i μe he
  cases e1
  obtain ⟨w2, g2⟩ := w1.newC (p := Dn) hD (o := .lst []) (c := .lst []) ⟨w1.ex.none hD, [], upd_same, .nil⟩
  refine ⟨fun i m H' => m = items.length - i ∧ i ≤ items.length ∧ ∃ F' ρ' μ', Gr F1 F' (ρ1 ++ [Dn]) ρ' ∧ Wf G F' ρ' μ' H' ∧ lcLC k items g fc fe μ1.length (wipeZ δ (own.map (·.2))) (items.drop i) μ' = some μe,
    ⟨items.length, rfl, Nat.zero_le _, F1, ρ1 ++ [Dn], _, Gr.refl _ _, w2, he⟩, ?_⟩
  rintro i m H' ⟨rfl, hi, F', ρ', μ', g', w', e'⟩
  have nD : ρ'[μ1.length]? = some Dn := g'.at (by rw [← w1.len]; simp)
  have hr' : ρ'[k]? = some l := (g2.trans g').at hr
  by_cases hlt : i < items.length
  · have hd : items.drop i = items[i] :: items.drop (i + 1) := List.drop_eq_getElem_cons hlt
    rw [hd] at e'
    unfold lcLC at e'
    split at e'
    case isFalse => cases e'
    rename_i hx'
    obtain ⟨go, yl⟩ := (walk_cell w' hr' hx' i).2 items[i] (List.getElem?_eq_getElem hlt)
    refine .inr ⟨go, fun H2 => ∃ F2 ρ2 μ2, Gr F1 F2 (ρ1 ++ [Dn]) ρ2 ∧ Wf G F2 ρ2 μ2 H2 ∧ lcLC k items g fc fe μ1.length (wipeZ δ (own.map (·.2))) (items.drop (i + 1)) μ2 = some μe, fun H2 ⟨F2, ρ2, μ2, g2, w2, e2⟩ => ⟨items.length - (i + 1), by omega, rfl, hlt, F2, ρ2, μ2, g2, w2, e2⟩, fun x H2 hy => ?_⟩
    obtain ⟨eH, rx⟩ := yl x H2 hy
    subst eH
    cases hg : g items[i] (wipeZ δ (own.map (·.2))) with
    | none => simp [hg] at e'
    | some δ1 =>
      simp only [hg] at e'
      refine zg.ok F' ρ' μ' H2 _ _ δ1 x _ _ w' (((s1.mono g2).mono g').wipe _) rx hg fun σ3 b3 s3 => ⟨wipe_same hj b3, ?_⟩
      cases hc : fc δ1 μ' with
      | none => simp [hc] at e'
      | some q =>
        obtain ⟨b, μ3⟩ := q
        refine ⟨F', ρ', δ1, μ', _, w', s3, hc, ?_⟩
        cases b with
        | error x => simp [hc] at e'
        | ok b =>
          intro bb F3 ρ3 H3 g3 w3 ebb
          subst ebb
          cases bb with
          | false =>
            simp only [hc] at e'
            exact ⟨F3, ρ3, μ3, g'.trans g3, w3, e'⟩
          | true =>
            simp only [hc] at e'
            simp only [if_true]
            cases hf : fe δ1 μ3 with
            | none => simp [hf] at e'
            | some q =>
              obtain ⟨y, μ4⟩ := q
              refine ⟨F3, ρ3, δ1, μ3, _, w3, s3.mono g3, hf, ?_⟩
              cases y with
              | error x => simp [hf] at e'
              | ok y =>
                intro vy F4 ρ4 H4 g4 w4 ry
                simp only [hf] at e'
                have gall : Gr F1 F4 (ρ1 ++ [Dn]) ρ4 := (g'.trans g3).trans g4
                have nD4 : ρ4[μ1.length]? = some Dn := gall.at (by rw [← w1.len]; simp)
                split at e'
                · rename_i acc hacc
                  split at e'
                  · rename_i hlen
                    obtain ⟨h0, vs, h1, h2⟩ := w4.cell _ _ _ nD4 hacc
                    refine ⟨vs, h1, by rw [h2.len]; exact hlen, F4, ρ4, _, gall, w4.setC nD4 h0 (show CellOk G F4 ρ4 _ Dn (.lst (acc ++ [y])) from ⟨h0, vs ++ [vy], upd_same, h2.app (.cons ry .nil)⟩), e'⟩
                  · cases e'
                · cases e'
  · have hi' : items.length ≤ i := by omega
    rw [List.drop_eq_nil_of_le hi'] at e'
    unfold lcLC at e'
    split at e'
    case isFalse => cases e'
    rename_i hx'
    refine .inl ⟨(walk_cell w' hr' hx' i).1 hi', ?_⟩
    cases e'
    exact p1 _ F' ρ' H' (g2.trans g') w' (.c nD)
theorem z_lcK {vs : List Nat} (hK : G.K = X.K) (hc : X.calm = true) (hN : X.N.Nodup) (ha : PE X iter (zE G W fa)) (ok : BlkOk X.N X.env.scope scope own) (hv : own.map (·.2) = vs) (zg : ZG G js t g) (hj : ∀ j ∈ js, j ∈ vs)
    (hg : ∀ (s : Shared) (H : Hp) (C : Addr) (cl : List (Str × Addr)) (fp : List Addr), PG (X.blk s H scope (compEnvC scope cl C X.env) fp) tg t)
    (ht : ∀ (s : Shared) (H : Hp) (C : Addr) (cl : List (Str × Addr)) (fp : List Addr), PTs (X.blk s H scope (compEnvC scope cl C X.env) fp) ifs (zT G W0 fc))
    (he : ∀ (s : Shared) (H : Hp) (C : Addr) (cl : List (Str × Addr)) (fp : List Addr), PE (X.blk s H scope (compEnvC scope cl C X.env) fp) elt (zE G W0 fe)) (hs : ∀ x, foldedSetIterable iter X.env x = pure x := by intro _; rfl) :
    PE X (.ListComp elt [⟨tg, iter, ifs, 0⟩] scope pos) (zE G W (fLcK fa vs g fc fe)) := by
  subst hv
  exact peImp (pe_lc hc hN (pi_list ha) ok hg ht he hs) fun _ _ _ q => lck_reads hK zg hj q
end
end Z
namespace Z
open PySem PySem.Spec PyProof.Rows L2
section
variable {G : Gx} {X : Cx} {W : WX} {F : Hp} {ρ : List Addr} {μ : Mu} {H : Hp} {a b c e f o tg iter elt : Expr} {es : List Expr} {fa fb fo fi fv fk : Fz Sv} {fr : Fz (List Sv)} {pos p2 p p0 apos cpos : Pos} {x : Str} {id T : String} {body : List Stmt} {t : TG} {g : Tz} {S : Sz} {js : List Nat}
/-! ### a cell with the cells in it becomes a tree -/
mutual
def dpz : Nat → Mu → Sv → Option (D × Mu)
  | _, μ, .d x => some (x, μ)
  | 0, _, .c _ => none
  | k + 1, μ, .c n => match μ[n]? with
    | some (.lst xs) => match dpzL k (μ.set n .fz) xs with
      | some (ds, μ') => some (.lst ds, μ')
      | none => none
    | some (.ins c fs) => match dpzF k (μ.set n .fz) fs with
      | some (ds, μ') => some (.ins c ds, μ')
      | none => none
    | _ => none
def dpzL : Nat → Mu → List Sv → Option (List D × Mu)
  | _, μ, [] => some ([], μ)
  | k, μ, x :: r => match dpz k μ x with
    | some (d, μ1) => match dpzL k μ1 r with
      | some (ds, μ2) => some (d :: ds, μ2)
      | none => none
    | none => none
def dpzF : Nat → Mu → List (String × Sv) → Option (List (String × D) × Mu)
  | _, μ, [] => some ([], μ)
  | k, μ, (s, x) :: r => match dpz k μ x with
    | some (d, μ1) => match dpzF k μ1 r with
      | some (ds, μ2) => some ((s, d) :: ds, μ2)
      | none => none
    | none => none
end
mutual
theorem dpz_ok : ∀ (k : Nat) (μ : Mu) (sv : Sv) (d : D) (μ' : Mu) (F : Hp) (v : V), Wf G F ρ μ H → Rs G F ρ v sv → dpz k μ sv = some (d, μ') → ∃ F', Gr F F' ρ ρ ∧ Wf G F' ρ μ' H ∧ Rp G F' v d
  | k, μ, .d x, d, μ', F, v, w, r, h => by
    have h : some (x, μ) = some (d, μ') := by cases k <;> simpa only [dpz] using h
    cases h
    cases r with | d r => exact ⟨F, Gr.refl _ _, w, r⟩
  | 0, μ, .c n, d, μ', F, v, w, r, h => by simp [dpz] at h
  | k + 1, μ, .c n, d, μ', F, v, w, r, h => by
    cases r with
    | c hr =>
      rename_i a
      unfold dpz at h
      split at h
      · rename_i xs hx
        obtain ⟨h0, vs, h1, h2⟩ := w.cell n a _ hr hx
        obtain ⟨w2, g2⟩ := w.frz hr h0 h1
        split at h
        · rename_i ds μ2 hd
          cases h
          obtain ⟨F', g3, w3, r3⟩ := dpzL_ok k _ xs ds _ _ vs w2 (h2.mono g2) hd
          exact ⟨F', g2.trans g3, w3, .lst (SqL.of (g3.f _ _ upd_same)) r3⟩
        · cases h
      · rename_i c fs hx
        obtain ⟨h0, dx, vs, h1, h2⟩ := w.cell n a _ hr hx
        obtain ⟨w2, g2⟩ := w.frz hr h0 h1
        split at h
        · rename_i ds μ2 hd
          cases h
          obtain ⟨F', g3, w3, r3⟩ := dpzF_ok k _ fs ds _ _ vs w2 (h2.mono g2) hd
          exact ⟨F', g2.trans g3, w3, .ins (g3.f _ _ upd_same) r3⟩
        · cases h
      · cases h
theorem dpzL_ok : ∀ (k : Nat) (μ : Mu) (xs : List Sv) (ds : List D) (μ' : Mu) (F : Hp) (vs : List V), Wf G F ρ μ H → RsL G F ρ vs xs → dpzL k μ xs = some (ds, μ') → ∃ F', Gr F F' ρ ρ ∧ Wf G F' ρ μ' H ∧ RpL G F' vs ds
  | k, μ, [], ds, μ', F, vs, w, r, h => by
    have h : some (([] : List D), μ) = some (ds, μ') := by cases k <;> simpa only [dpzL] using h
    cases h
    cases r
    exact ⟨F, Gr.refl _ _, w, .nil⟩
  | k, μ, x :: rest, ds, μ', F, vs, w, r, h => by
    cases r with
    | cons r1 r2 =>
    unfold dpzL at h
    split at h
    · rename_i d μ1 hd
      split at h
      · rename_i ds' μ2 hd2
        cases h
        obtain ⟨F1, g1, w1, q1⟩ := dpz_ok k μ x d μ1 F _ w r1 hd
        obtain ⟨F2, g2, w2, q2⟩ := dpzL_ok k μ1 rest ds' _ F1 _ w1 (r2.mono g1) hd2
        exact ⟨F2, g1.trans g2, w2, .cons (q1.mono g2.f) q2⟩
      · cases h
    · cases h
theorem dpzF_ok : ∀ (k : Nat) (μ : Mu) (xs : List (String × Sv)) (ds : List (String × D)) (μ' : Mu) (F : Hp) (vs : List (Str × V)), Wf G F ρ μ H → RsF G F ρ vs xs → dpzF k μ xs = some (ds, μ') → ∃ F', Gr F F' ρ ρ ∧ Wf G F' ρ μ' H ∧ RpF G F' vs ds
  | k, μ, [], ds, μ', F, vs, w, r, h => by
    have h : some (([] : List (String × D)), μ) = some (ds, μ') := by cases k <;> simpa only [dpzF] using h
    cases h
    cases r
    exact ⟨F, Gr.refl _ _, w, .nil⟩
  | k, μ, (s, x) :: rest, ds, μ', F, vs, w, r, h => by
    cases r with
    | cons r1 r2 =>
    unfold dpzF at h
    split at h
    · rename_i d μ1 hd
      split at h
      · rename_i ds' μ2 hd2
        cases h
        obtain ⟨F1, g1, w1, q1⟩ := dpz_ok k μ x d μ1 F _ w r1 hd
        obtain ⟨F2, g2, w2, q2⟩ := dpzF_ok k μ1 rest ds' _ F1 _ w1 (r2.mono g1) hd2
        exact ⟨F2, g1.trans g2, w2, .cons (q1.mono g2.f) q2⟩
      · cases h
    · cases h
end
/-- slot i is read as a tree from here on -/
def sFzD (i : Nat) (S : Sz) : Sz := fun δ μ => match δ[i]? with
  | some (some v) => match dpz 8 μ v with
    | some (d, μ') => S (δ.set i (some (.d d))) μ'
    | none => none
  | _ => none
theorem Sl.at {σ : L2.St} {δ : Dl} (s : Sl G F ρ σ δ) : ∀ {i : Nat} {y : Sv}, δ[i]? = some (some y) → ∃ v, σ[i]? = some (some v) ∧ Rs G F ρ v y := by
  induction s with
  | nil => intro i y h; simp at h
  | un _ ih =>
    intro i y h
    cases i with
    | zero => simp at h
    | succ i => exact ih (by simpa using h)
  | cons r _ ih =>
    intro i y h
    cases i with
    | zero => simp at h; subst h; exact ⟨_, rfl, r⟩
    | succ i => exact ih (by simpa using h)
theorem fzd_reads {i : Nat} {D : Ends} {σ : L2.St} (q : zS G W (sFzD i S) D σ H) : zS G W S D σ H := by
  obtain ⟨F, ρ, δ, μ, r, w, s, e, p⟩ := q
  unfold sFzD at e
  split at e
  · rename_i v hv
    split at e
    · rename_i d μ' hd
      obtain ⟨u, hu, ru⟩ := s.at hv
      obtain ⟨F', g, w', rp⟩ := dpz_ok 8 μ v d μ' F u w ru hd
      refine ⟨F', ρ, δ.set i (some (.d d)), μ', r, w', ?_, e, p.mono g⟩
      have s2 := (s.mono g).set (.d rp) i
      have e2 : σ.set i (some u) = σ := by
        apply List.ext_getElem?
        intro j
        by_cases hj : i = j
        · subst hj
          have hl := (List.getElem?_eq_some_iff.1 hu).1
          rw [List.getElem?_set_self hl, hu]
        · rw [List.getElem?_set_ne hj]
      rw [e2] at s2
      exact s2
    · cases e
  · cases e
theorem zs_fzd {i : Nat} {ss : List Stmt} (h : PSs X ss (zS G W S)) : PSs X ss (zS G W (sFzD i S)) := ⟨fun pins s σ H D I q => h.run pins s σ H D I (fzd_reads q)⟩
/-! ### a list taken apart -/
def gL (h : List Sv → Dl → Option Dl) : Tz := fun x δ => match x with
  | .d (.lst l) => h (l.map Sv.d) δ
  | _ => none
theorem zg_lst {n : Nat} {t : TGs} {h : List Sv → Dl → Option Dl} (z : ZGs G js t h) (hn : ∀ (l : List Sv) δ δ', h l δ = some δ' → l.length = n) : ZG G js (gLst G.K n t) (gL h) := ⟨fun F ρ μ H σ δ δ' v x Q w s r e k => by
  unfold gL at e
  split at e
  · rename_i l
    cases r with
    | d r =>
      cases r with
      | lst h1 h2 =>
        refine ⟨_, _, rfl, w.ex.l h1, ?_, z.ok w s (RsL.ofD h2) e k⟩
        have := hn _ _ _ e
        rw [h2.len]; simpa using this
  · cases e⟩
/-! ### dicts: setdefault, get -/
def setdO (o k v : Sv) (μ : Mu) : Rz Sv := match o with
  | .c n => match μ[n]? with
    | some (.dct kvs) => match keyOf k with
      | some k => if kvs.length < 16777216 then (match lookK kvs k with
        | some x => some (.ok x, μ)
        | none => some (.ok v, μ.set n (.dct (putS kvs k v)))) else none
      | none => none
    | _ => none
  | _ => none
def isDct (o : Sv) (μ : Mu) : Bool := match o with
  | .c n => match μ[n]? with
    | some (.dct _) => true
    | _ => false
  | _ => false
theorem isDct_at {v : V} {o : Sv} (w : Wf G F ρ μ H) (r : Rs G F ρ v o) (h : isDct o μ = true) : ∃ a, v = .ref a ∧ IsD H a := by
  unfold isDct at h
  split at h
  · split at h
    · rename_i kvs hk
      cases r with
      | c hr =>
        obtain ⟨_, vs, h1, h2⟩ := w.cell _ _ _ hr hk
        exact ⟨_, rfl, .inl ⟨_, .inl h1⟩⟩
    · cases h
  · cases h
def fSetd (fo fk fv : Fz Sv) : Fz Sv := fun δ μ => (fo δ μ).bind fun o μ => if isDct o μ = true then (fk δ μ).bind fun k μ => (fv δ μ).bind fun v μ => setdO o k v μ else none
theorem z_setd (ho : PE X o (zE G W fo)) (he : PE X e (zE G W fk)) (hf : PE X f (zE G W fv)) (m : M2 X o "setdefault" apos e f cpos) : PE X (.Call (.Attribute o "setdefault" apos) [e, f] [] cpos) (zE G W (fSetd fo fk fv)) := peImp (pe_dsetd ho he hf m) fun σ H Q q => by
  obtain ⟨F, ρ, δ, μ, rr, w, s, e, p⟩ := q
  refine zstep w s e p fun so μ1 ov F1 ρ1 H1 g1 w1 s1 ro e1 p1 => ?_
  split at e1
  case isFalse => cases e1
  rename_i hd
  obtain ⟨ad, rfl, hD⟩ := isDct_at w1 ro hd
  refine ⟨ad, rfl, hD, ?_⟩
  refine zstep w1 s1 e1 p1 fun sk μ2 kv F2 ρ2 H2 g2 w2 s2 rk e2 p2 => ?_
  refine zstep w2 s2 e2 p2 fun sv μ3 vv F3 ρ3 H3 g3 w3 s3 rv e3 p3 => ?_
  have ro3 := ro.mono (g2.trans g3)
  have rk3 := rk.mono g3
  unfold setdO at e3
  split at e3
  case h_2 => cases e3
  rename_i n
  cases ro3 with
  | c hr =>
  split at e3
  case h_2 => cases e3
  rename_i kvs hk
  split at e3
  case h_2 => cases e3
  rename_i k hkey
  split at e3
  case isFalse => cases e3
  rename_i hl
  obtain ⟨h0, ws, h1', h2⟩ := w3.cell _ _ _ hr hk
  refine ⟨ws, k, h1', keyOf_at rk3 hkey, by rw [h2.len, szl]; exact hl, fun v hv => ?_, fun hn => ?_⟩
  · cases hlk : lookK kvs k with
    | none => rw [lookK_none h2 hlk] at hv; cases hv
    | some y =>
      rw [hlk] at e3
      cases e3
      obtain ⟨v', hv', r'⟩ := lookK_at h2 hlk
      rw [hv] at hv'; cases hv'
      exact p3.ok w3 r'
  · cases hlk : lookK kvs k with
    | some y =>
      obtain ⟨v', hv', r'⟩ := lookK_at h2 hlk
      rw [hn] at hv'; cases hv'
    | none =>
      rw [hlk] at e3
      cases e3
      exact p3.ok (w3.setC hr h0 (show CellOk G F3 ρ3 _ _ (.dct _) from ⟨h0, _, upd_same, h2.put (k := k) rv⟩)) rv
def getdO (o k v : Sv) (μ : Mu) : Rz Sv := match o with
  | .c n => match μ[n]? with
    | some (.dct kvs) => match keyOf k with
      | some k => some (.ok ((lookK kvs k).getD v), μ)
      | none => none
    | _ => none
  | _ => none
def fGet2 (fo fk fv : Fz Sv) : Fz Sv := fun δ μ => (fo δ μ).bind fun o μ => if isDct o μ = true then (fk δ μ).bind fun k μ => (fv δ μ).bind fun v μ => getdO o k v μ else none
theorem z_get2 (hu : X.A.units + 1 < cLine) (ho : PE X o (zE G W fo)) (he : PE X e (zE G W fk)) (hf : PE X f (zE G W fv)) (m : M2 X o "get" apos e f cpos) : PE X (.Call (.Attribute o "get" apos) [e, f] [] cpos) (zE G W (fGet2 fo fk fv)) := peImp (pe_dget2 hu ho he hf m) fun σ H Q q => by
  obtain ⟨F, ρ, δ, μ, rr, w, s, e, p⟩ := q
  refine zstep w s e p fun so μ1 ov F1 ρ1 H1 g1 w1 s1 ro e1 p1 => ?_
  split at e1
  case isFalse => cases e1
  rename_i hd
  obtain ⟨ad, rfl, hD⟩ := isDct_at w1 ro hd
  refine ⟨ad, rfl, hD, ?_⟩
  refine zstep w1 s1 e1 p1 fun sk μ2 kv F2 ρ2 H2 g2 w2 s2 rk e2 p2 => ?_
  refine zstep w2 s2 e2 p2 fun sv μ3 vv F3 ρ3 H3 g3 w3 s3 rv e3 p3 => ?_
  have ro3 := ro.mono (g2.trans g3)
  have rk3 := rk.mono g3
  unfold getdO at e3
  split at e3
  case h_2 => cases e3
  rename_i n
  cases ro3 with
  | c hr =>
  split at e3
  case h_2 => cases e3
  rename_i kvs hk
  split at e3
  case h_2 => cases e3
  rename_i k hkey
  cases e3
  obtain ⟨h0, ws, h1', h2⟩ := w3.cell _ _ _ hr hk
  cases hlk : lookK kvs k with
  | none =>
    refine ⟨none, ?_, ?_⟩
    · rw [keyOf_at rk3 hkey]
      exact .inl ⟨ws, k, .inl h1', rfl, (lookK_none h2 hlk).symm⟩
    · rw [hlk] at p3
      exact p3.ok w3 rv
  | some y =>
    obtain ⟨v', hv', r'⟩ := lookK_at h2 hlk
    refine ⟨some v', ?_, ?_⟩
    · rw [keyOf_at rk3 hkey]
      exact .inl ⟨ws, k, .inl h1', rfl, hv'.symm⟩
    · rw [hlk] at p3
      exact p3.ok w3 r'
/-! ### built in, over lists -/
def toBs : List Sv → Option (List Bool)
  | [] => some []
  | .d (.bl b) :: r => (toBs r).map fun l => b :: l
  | _ => none
def toIs : List Sv → Option (List Int)
  | [] => some []
  | .d (.int b) :: r => (toIs r).map fun l => b :: l
  | _ => none
theorem toBs_at : ∀ {vs : List V} {xs : List Sv} {bs : List Bool}, RsL G F ρ vs xs → toBs xs = some bs → vs = bs.map V.bl
  | _, _, _, .nil, h => by cases h; rfl
  | _, .d (.bl b) :: r, bs, .cons (.d h1) h2, h => by
    unfold toBs at h
    cases hr : toBs r with
    | none => rw [hr] at h; cases h
    | some l => rw [hr] at h; cases h; cases h1; rw [toBs_at h2 hr]; rfl
theorem toIs_at : ∀ {vs : List V} {xs : List Sv} {bs : List Int}, RsL G F ρ vs xs → toIs xs = some bs → vs = bs.map V.int
  | _, _, _, .nil, h => by cases h; rfl
  | _, .d (.int b) :: r, bs, .cons (.d h1) h2, h => by
    unfold toIs at h
    cases hr : toIs r with
    | none => rw [hr] at h; cases h
    | some l => rw [hr] at h; cases h; cases h1; rw [toIs_at h2 hr]; rfl
def bAll : Opn := fun as μ => match as with
  | [a] => match (lstV μ a).bind toBs with
    | some bs => okz (.bl (bs.all _root_.id)) μ
    | none => none
  | _ => none
def bAny : Opn := fun as μ => match as with
  | [a] => match (lstV μ a).bind toBs with
    | some bs => okz (.bl (bs.any _root_.id)) μ
    | none => none
  | _ => none
def bSum : Opn := fun as μ => match as with
  | [a] => match (lstV μ a).bind toIs with
    | some bs => okz (.int bs.sum) μ
    | none => none
  | _ => none
theorem so_all (hK : G.K = X.K) : SOpn G W (rAll X.K) bAll := by
  intro F ρ μ H σ vs as rr Q w r h p
  unfold bAll at h
  split at h
  · split at h
    · rename_i bs hb
      cases h
      obtain ⟨xs, hx, hb⟩ := Option.bind_eq_some_iff.1 hb
      cases r with
      | cons r t =>
        cases t
        obtain ⟨ax, ws, rfl, h2, h3⟩ := lstV_at w r hx
        exact ⟨ax, bs, rfl, by rw [← hK, ← toBs_at h3 hb]; exact h2, p.ok w (.d (.bl _))⟩
    · cases h
  · cases h
theorem so_any (hK : G.K = X.K) : SOpn G W (rAny X.K) bAny := by
  intro F ρ μ H σ vs as rr Q w r h p
  unfold bAny at h
  split at h
  · split at h
    · rename_i bs hb
      cases h
      obtain ⟨xs, hx, hb⟩ := Option.bind_eq_some_iff.1 hb
      cases r with
      | cons r t =>
        cases t
        obtain ⟨ax, ws, rfl, h2, h3⟩ := lstV_at w r hx
        exact ⟨ax, bs, rfl, by rw [← hK, ← toBs_at h3 hb]; exact h2, p.ok w (.d (.bl _))⟩
    · cases h
  · cases h
theorem so_sum (hK : G.K = X.K) : SOpn G W (rSum X.K) bSum := by
  intro F ρ μ H σ vs as rr Q w r h p
  unfold bSum at h
  split at h
  · split at h
    · rename_i bs hb
      cases h
      obtain ⟨xs, hx, hb⟩ := Option.bind_eq_some_iff.1 hb
      cases r with
      | cons r t =>
        cases t
        obtain ⟨ax, ws, rfl, h2, h3⟩ := lstV_at w r hx
        exact ⟨ax, bs, rfl, by rw [← hK, ← toIs_at h3 hb]; exact h2, p.ok w (.d (.int _))⟩
    · cases h
  · cases h
def bMin3 : Opn := fun as μ => match as with
  | [.d (.int i), .d (.int j), .d (.int k)] => okz (.int (if k < (if j < i then j else i) then k else (if j < i then j else i))) μ
  | _ => none
theorem so_min3 : SOpn G W (rNuC3 nuMin3) bMin3 := by
  intro F ρ μ H σ vs as rr Q w r h p
  unfold bMin3 at h
  split at h
  · rename_i i j k
    cases h
    cases r with | cons r t => cases t with | cons r2 t => cases t with | cons r3 t => cases t; cases r with | d r => cases r; cases r2 with | d r2 => cases r2; cases r3 with | d r3 => cases r3; exact ⟨_, _, _, _, rfl, by
      show ((Option.map _ (some (decide (j < i)))).bind _) = _
      by_cases h1 : j < i
      · simp only [h1, decide_true, Option.map_some, Option.bind_some, if_true]
        show Option.map _ (some (decide (k < j))) = _
        by_cases h2 : k < j <;> simp [h2]
      · simp only [h1, decide_false, Option.map_some, Option.bind_some, if_false, Bool.false_eq_true]
        show Option.map _ (some (decide (k < i))) = _
        by_cases h2 : k < i <;> simp [h2], p.ok w (.d (.int _))⟩
  · cases h
/-- list(range(n)) -/
def rngD (lo : Int) (n : Nat) : List D := (List.range n).map fun i => .int (lo + (i : Nat))
theorem rpl_rng (lo : Int) : ∀ l : List Nat, RpL G F (l.map fun i => V.int (lo + (i : Nat))) (l.map fun i => D.int (lo + (i : Nat)))
  | [] => .nil
  | _ :: r => .cons (.int _) (rpl_rng lo r)
def fLRg (fa : Fz Sv) : Fz Sv := fun δ μ => (fa δ μ).bind fun a μ => match a with
  | .d (.int n) => if -(2 ^ 62) ≤ n ∧ n ≤ 16777216 then okz (.lst (rngD 0 n.toNat)) μ else none
  | _ => none
theorem z_lrg (hc : X.calm = true) (hg : Gl X "list") (hm : X.mg "list" = none) (hg2 : Gl X "range") (hm2 : X.mg "range" = none) (ha : PE X a (zE G W fa)) (na : starEach [.Call (.Name "range" p2) [a] [] p] X.env = (false, eval (.Call (.Name "range" p2) [a] [] p) X.env) :: starEach [] X.env := by rfl) (nb : starEach [a] X.env = (false, eval a X.env) :: starEach [] X.env := by rfl) :
    PE X (.Call (.Name "list" p0) [.Call (.Name "range" p2) [a] [] p] [] pos) (zE G W (fLRg fa)) := peImp (pe_listRg hc hg hm (prg_1 hg2 hm2 ha nb) na) fun σ H Q q => by
  obtain ⟨F, ρ, δ, μ, rr, w, s, e, p⟩ := q
  refine zstep w s e p fun sa μ1 v F1 ρ1 H1 g1 w1 s1 rv e1 p1 => ?_
  split at e1
  · rename_i n
    split at e1
    · rename_i hn
      cases e1
      cases rv with
      | d rv =>
        cases rv
        refine ⟨n, rfl, ⟨by omega, by omega, by omega, by omega, by omega⟩, fun q hq => ?_⟩
        obtain ⟨w2, g2⟩ := w1.newD hq (.lst (rgV 0 n))
        refine p1 _ _ _ _ g2 w2 (.d (.lst (SqL.of upd_same) ?_))
        have : n - 0 = n := by omega
        unfold rgV rngD
        rw [this]
        exact rpl_rng 0 _
    · cases e1
  · cases e1
end
end Z
namespace Z
open PySem PySem.Spec PyProof.Rows L2
/-! ## what a run ends in: the weakest condition, by simp -/
/-- a mark that hangs on what follows: simp leaves what follows alone till it is reached -/
def Ph {β : Type} (_ : β) : Type := Unit
def phm {β : Type} (x : β) : Ph x := ()
def Ev {α : Type} (r : Rz α) (P : Except Exn α → Mu → Prop) (_ : Ph P := phm P) : Prop := ∃ e μ, r = some (e, μ) ∧ P e μ
def Es (r : Sr) (P : Fl → Dl → Mu → Prop) (_ : Ph P := phm P) : Prop := ∃ f δ μ, r = some (f, δ, μ) ∧ P f δ μ
theorem Ev_ext {α : Type} {r : Rz α} {P Q : Except Exn α → Mu → Prop} (h : ∀ e μ, P e μ = Q e μ) : Ev r P = Ev r Q := by
  have : P = Q := by funext e μ; exact h e μ
  subst this; rfl
theorem Es_ext {r : Sr} {P Q : Fl → Dl → Mu → Prop} (h : ∀ f δ μ, P f δ μ = Q f δ μ) : Es r P = Es r Q := by
  have : P = Q := by funext e δ μ; exact h e δ μ
  subst this; rfl
theorem Ev_congr {α : Type} {r r' : Rz α} {P : Except Exn α → Mu → Prop} (h : r = r') : Ev r P = Ev r' P := by rw [h]
theorem Es_congr {r r' : Sr} {P : Fl → Dl → Mu → Prop} (h : r = r') : Es r P = Es r' P := by rw [h]
theorem Ev.imp {α : Type} {r : Rz α} {P Q : Except Exn α → Mu → Prop} (h : Ev r P) (k : ∀ e μ, P e μ → Q e μ) : Ev r Q := let ⟨e, μ, a, b⟩ := h; ⟨e, μ, a, k e μ b⟩
theorem Es.imp {r : Sr} {P Q : Fl → Dl → Mu → Prop} (h : Es r P) (k : ∀ f δ μ, P f δ μ → Q f δ μ) : Es r Q := let ⟨e, δ, μ, a, b⟩ := h; ⟨e, δ, μ, a, k e δ μ b⟩
def okc {α : Type} (e : Except Exn α) (k : α → Prop) (x : Exn → Prop) : Prop := match e with
  | .ok a => k a
  | .error y => x y
@[simp ↓, simp] theorem okc_ok {α : Type} (a : α) (k : α → Prop) (x : Exn → Prop) : okc (.ok a) k x = k a := rfl
@[simp ↓, simp] theorem okc_err {α : Type} (a : Exn) (k : α → Prop) (x : Exn → Prop) : okc (.error a) k x = x a := rfl
def nxc (f : Fl) (k : Prop) (x : Fl → Prop) : Prop := match f with
  | .nx => k
  | y => x y
@[simp ↓, simp] theorem nxc_nx (k : Prop) (x : Fl → Prop) : nxc .nx k x = k := rfl
@[simp ↓, simp] theorem nxc_rt (k : Prop) (x : Fl → Prop) (v : Sv) : nxc (.rt v) k x = x (.rt v) := rfl
@[simp ↓, simp] theorem nxc_bk (k : Prop) (x : Fl → Prop) : nxc .bk k x = x .bk := rfl
@[simp ↓, simp] theorem nxc_ct (k : Prop) (x : Fl → Prop) : nxc .ct k x = x .ct := rfl
@[simp ↓, simp] theorem nxc_ex (k : Prop) (x : Fl → Prop) (e : Exn) : nxc (.ex e) k x = x (.ex e) := rfl
@[simp] theorem Ev_some {α : Type} (e : Except Exn α) (μ : Mu) (P : Except Exn α → Mu → Prop) : Ev (some (e, μ)) P = P e μ := by
  apply propext; constructor
  · rintro ⟨e1, μ1, h, p⟩; cases h; exact p
  · exact fun p => ⟨e, μ, rfl, p⟩
@[simp] theorem Ev_okz (d : D) (μ : Mu) (P : Except Exn Sv → Mu → Prop) : Ev (okz d μ) P = P (.ok (.d d)) μ := Ev_some ..
@[simp] theorem Ev_none {α : Type} (P : Except Exn α → Mu → Prop) : Ev none P = False := by
  apply propext; constructor
  · rintro ⟨e1, μ1, h, p⟩; cases h
  · exact False.elim
theorem Ev_bind {α β : Type} (r : Rz α) (k : α → Mu → Rz β) (P : Except Exn β → Mu → Prop) : Ev (r.bind k) P = Ev r (fun e μ => okc e (fun a => Ev (k a μ) P) (fun x => P (.error x) μ)) := by
  apply propext; constructor
  · rintro ⟨e1, μ1, h, p⟩
    match r, h with
    | some (.ok a, μ), h => exact ⟨_, _, rfl, e1, μ1, h, p⟩
    | some (.error a, μ), h => cases h; exact ⟨_, _, rfl, p⟩
  · rintro ⟨e1, μ1, rfl, p⟩
    match e1, p with
    | .ok a, p => exact p
    | .error a, p => exact ⟨_, _, rfl, p⟩
@[simp] theorem Ev_ite {α : Type} (c : Prop) [Decidable c] (a b : Rz α) (P : Except Exn α → Mu → Prop) : Ev (if c then a else b) P = if c then Ev a P else Ev b P := by split <;> rfl
@[simp] theorem Es_ite (c : Prop) [Decidable c] (a b : Sr) (P : Fl → Dl → Mu → Prop) : Es (if c then a else b) P = if c then Es a P else Es b P := by split <;> rfl
@[simp] theorem Es_some (f : Fl) (δ : Dl) (μ : Mu) (P : Fl → Dl → Mu → Prop) : Es (some (f, δ, μ)) P = P f δ μ := by
  apply propext; constructor
  · rintro ⟨e1, δ1, μ1, h, p⟩; cases h; exact p
  · exact fun p => ⟨f, δ, μ, rfl, p⟩
@[simp] theorem Es_none (P : Fl → Dl → Mu → Prop) : Es none P = False := by
  apply propext; constructor
  · rintro ⟨e1, δ1, μ1, h, p⟩; cases h
  · exact False.elim
theorem Es_eS {α : Type} (r : Rz α) (δ : Dl) (k : α → Mu → Sr) (P : Fl → Dl → Mu → Prop) : Es (eS r δ k) P = Ev r (fun e μ => okc e (fun a => Es (k a μ) P) (fun x => P (.ex x) δ μ)) := by
  apply propext; constructor
  · rintro ⟨e1, δ1, μ1, h, p⟩
    match r, h with
    | some (.ok a, μ), h => exact ⟨_, _, rfl, e1, δ1, μ1, h, p⟩
    | some (.error a, μ), h => cases h; exact ⟨_, _, rfl, p⟩
  · rintro ⟨e1, μ1, rfl, p⟩
    match e1, p with
    | .ok a, p => exact p
    | .error a, p => exact ⟨_, _, _, rfl, p⟩
@[simp] theorem Es_seq (S T : Sz) (δ : Dl) (μ : Mu) (P : Fl → Dl → Mu → Prop) : Es (sSeq S T δ μ) P = Es (S δ μ) (fun f δ μ => nxc f (Es (T δ μ) P) (fun f => P f δ μ)) := by
  show Es (sThen (S δ μ) T) P = _
  apply propext; constructor
  · rintro ⟨e1, δ1, μ1, h, p⟩
    match e : S δ μ, h with
    | some (.nx, δ2, μ2), h => exact ⟨_, _, _, rfl, _, _, _, h, p⟩
    | some (.rt v, δ2, μ2), h => cases h; exact ⟨_, _, _, rfl, p⟩
    | some (.bk, δ2, μ2), h => cases h; exact ⟨_, _, _, rfl, p⟩
    | some (.ct, δ2, μ2), h => cases h; exact ⟨_, _, _, rfl, p⟩
    | some (.ex v, δ2, μ2), h => cases h; exact ⟨_, _, _, rfl, p⟩
    | none, h => cases h
  · rintro ⟨e1, δ1, μ1, h, p⟩
    rw [h]
    match e1, p with
    | .nx, p => exact p
    | .rt v, p => exact ⟨_, _, _, rfl, p⟩
    | .bk, p => exact ⟨_, _, _, rfl, p⟩
    | .ct, p => exact ⟨_, _, _, rfl, p⟩
    | .ex v, p => exact ⟨_, _, _, rfl, p⟩
section
variable {P : Except Exn Sv → Mu → Prop} {R : Fl → Dl → Mu → Prop} {δ : Dl} {μ : Mu}
@[simp] theorem fVar_0 (x : Sv) : fVar 0 (some x :: δ) μ = some (.ok x, μ) := rfl
@[simp] theorem fVar_s (i : Nat) (o : Option Sv) : fVar (i + 1) (o :: δ) μ = fVar i δ μ := rfl
@[simp] theorem fC_eq (d : D) : fC d δ μ = okz d μ := rfl
@[simp] theorem Ev_op2 (o : Op2) (fa fb : Fz Sv) : Ev (fOp2 o fa fb δ μ) P = Ev (fa δ μ) (fun e μ => okc e (fun a => Ev (fb δ μ) (fun e μ => okc e (fun b => Ev (o a b μ) P) (fun x => P (.error x) μ))) (fun x => P (.error x) μ)) := by
  show Ev (Rz.bind _ _) _ = _
  rw [Ev_bind]; refine Ev_ext fun e μ => ?_; cases e <;> simp [okc, Ev_bind]
@[simp] theorem Ev_op1 (o : Op1) (fa : Fz Sv) : Ev (fOp1 o fa δ μ) P = Ev (fa δ μ) (fun e μ => okc e (fun a => Ev (o a μ) P) (fun x => P (.error x) μ)) := Ev_bind ..
@[simp] theorem Ev_nil {P : Except Exn (List Sv) → Mu → Prop} : Ev (fNil δ μ) P = P (.ok []) μ := Ev_some ..
@[simp] theorem Ev_cons (fa : Fz Sv) (fr : Fz (List Sv)) {P : Except Exn (List Sv) → Mu → Prop} : Ev (fCons fa fr δ μ) P = Ev (fa δ μ) (fun e μ => okc e (fun a => Ev (fr δ μ) (fun e μ => okc e (fun r => P (.ok (a :: r)) μ) (fun x => P (.error x) μ))) (fun x => P (.error x) μ)) := by
  show Ev (Rz.bind _ _) _ = _
  rw [Ev_bind]; refine Ev_ext fun e μ => ?_; cases e <;> simp [okc, Ev_bind]
  refine Iff.of_eq (Ev_ext fun e μ => ?_); cases e <;> simp
@[simp] theorem Ev_opn (o : Opn) (fa : Fz (List Sv)) : Ev (fOpn o fa δ μ) P = Ev (fa δ μ) (fun e μ => okc e (fun a => Ev (o a μ) P) (fun x => P (.error x) μ)) := Ev_bind ..
@[simp] theorem Ev_call (fn : Fn) (ds : List D) (fa : Fz (List Sv)) : Ev (fCall fn ds fa δ μ) P = Ev (fa δ μ) (fun e μ => okc e (fun a => Ev (fn (a ++ ds.map Sv.d) μ) P) (fun x => P (.error x) μ)) := Ev_bind ..
def blc (v : Sv) (k : Bool → Prop) (_ : Ph k := phm k) : Prop := match v with
  | .d (.bl b) => k b
  | _ => False
@[simp ↓, simp] theorem blc_bl (b : Bool) (k : Bool → Prop) : blc (.d (.bl b)) k = k b := rfl
@[simp] theorem Ev_T (fa : Fz Sv) {P : Except Exn Bool → Mu → Prop} : Ev (fT fa δ μ) P = Ev (fa δ μ) (fun e μ => okc e (fun a => blc a fun b => P (.ok b) μ) (fun x => P (.error x) μ)) := by
  show Ev (Rz.bind _ _) _ = _
  rw [Ev_bind]; refine Ev_ext fun e μ => ?_; cases e
  · simp
  · rename_i a
    simp only [okc_ok]
    match a with
    | .d (.bl b) => simp
    | .d .non => simp [blc]
    | .d (.int _) => simp [blc]
    | .d (.str _) => simp [blc]
    | .d (.lst _) => simp [blc]
    | .d (.tup _) => simp [blc]
    | .d (.ins _ _) => simp [blc]
    | .d (.exc _ _) => simp [blc]
    | .c _ => simp [blc]
@[simp] theorem Ev_and (fa fb : Fz Bool) {P : Except Exn Bool → Mu → Prop} : Ev (fAnd fa fb δ μ) P = Ev (fa δ μ) (fun e μ => okc e (fun a => if a = true then Ev (fb δ μ) P else P (.ok false) μ) (fun x => P (.error x) μ)) := by
  show Ev (Rz.bind _ _) _ = _
  rw [Ev_bind]; refine Ev_ext fun e μ => ?_; cases e <;> simp
@[simp] theorem Ev_or (fa fb : Fz Bool) {P : Except Exn Bool → Mu → Prop} : Ev (fOr fa fb δ μ) P = Ev (fa δ μ) (fun e μ => okc e (fun a => if a = true then P (.ok true) μ else Ev (fb δ μ) P) (fun x => P (.error x) μ)) := by
  show Ev (Rz.bind _ _) _ = _
  rw [Ev_bind]; refine Ev_ext fun e μ => ?_; cases e <;> simp
@[simp] theorem Ev_not (fa : Fz Bool) {P : Except Exn Bool → Mu → Prop} : Ev (fNot fa δ μ) P = Ev (fa δ μ) (fun e μ => okc e (fun a => P (.ok (!a)) μ) (fun x => P (.error x) μ)) := by
  show Ev (Rz.bind _ _) _ = _
  rw [Ev_bind]; refine Ev_ext fun e μ => ?_; cases e <;> simp
@[simp] theorem Ev_if (fc : Fz Bool) (fa fb : Fz Sv) : Ev (fIf fc fa fb δ μ) P = Ev (fc δ μ) (fun e μ => okc e (fun a => if a = true then Ev (fa δ μ) P else Ev (fb δ μ) P) (fun x => P (.error x) μ)) := by
  show Ev (Rz.bind _ _) _ = _
  rw [Ev_bind]; refine Ev_ext fun e μ => ?_; cases e <;> simp
@[simp] theorem Ev_andV (fa fb : Fz Sv) : Ev (fAndV fa fb δ μ) P = Ev (fa δ μ) (fun e μ => okc e (fun a => blc a fun b => if b = true then Ev (fb δ μ) P else P (.ok (.d (.bl false))) μ) (fun x => P (.error x) μ)) := by
  show Ev (Rz.bind _ _) _ = _
  rw [Ev_bind]; refine Ev_ext fun e μ => ?_; cases e
  · rfl
  · rename_i a; simp only [okc_ok]
    match a with
    | .d (.bl true) => simp
    | .d (.bl false) => simp
    | .d .non => simp [blc]
    | .d (.int _) => simp [blc]
    | .d (.str _) => simp [blc]
    | .d (.lst _) => simp [blc]
    | .d (.tup _) => simp [blc]
    | .d (.ins _ _) => simp [blc]
    | .d (.exc _ _) => simp [blc]
    | .c _ => simp [blc]
@[simp] theorem Ev_orV (fa fb : Fz Sv) : Ev (fOrV fa fb δ μ) P = Ev (fa δ μ) (fun e μ => okc e (fun a => blc a fun b => if b = true then P (.ok (.d (.bl true))) μ else Ev (fb δ μ) P) (fun x => P (.error x) μ)) := by
  show Ev (Rz.bind _ _) _ = _
  rw [Ev_bind]; refine Ev_ext fun e μ => ?_; cases e
  · rfl
  · rename_i a; simp only [okc_ok]
    match a with
    | .d (.bl true) => simp
    | .d (.bl false) => simp
    | .d .non => simp [blc]
    | .d (.int _) => simp [blc]
    | .d (.str _) => simp [blc]
    | .d (.lst _) => simp [blc]
    | .d (.tup _) => simp [blc]
    | .d (.ins _ _) => simp [blc]
    | .d (.exc _ _) => simp [blc]
    | .c _ => simp [blc]
@[simp] theorem Ev_notV (fa : Fz Sv) : Ev (fNotV fa δ μ) P = Ev (fa δ μ) (fun e μ => okc e (fun a => blc a fun b => P (.ok (.d (.bl (!b)))) μ) (fun x => P (.error x) μ)) := by
  show Ev (Rz.bind _ _) _ = _
  rw [Ev_bind]; refine Ev_ext fun e μ => ?_; cases e
  · rfl
  · rename_i a; simp only [okc_ok]
    match a with
    | .d (.bl true) => simp
    | .d (.bl false) => simp
    | .d .non => simp [blc]
    | .d (.int _) => simp [blc]
    | .d (.str _) => simp [blc]
    | .d (.lst _) => simp [blc]
    | .d (.tup _) => simp [blc]
    | .d (.ins _ _) => simp [blc]
    | .d (.exc _ _) => simp [blc]
    | .c _ => simp [blc]
@[simp] theorem fYes_eq : fYes δ μ = some (.ok true, μ) := rfl
/- statements -/
@[simp] theorem sNil_eq : sNil δ μ = some (.nx, δ, μ) := rfl
@[simp] theorem sBrk_eq : sBrk δ μ = some (.bk, δ, μ) := rfl
@[simp] theorem sCnt_eq : sCnt δ μ = some (.ct, δ, μ) := rfl
@[simp] theorem sRetN_eq : sRetN δ μ = some (.rt (.d .non), δ, μ) := rfl
@[simp] theorem Es_set (i : Nat) (f : Fz Sv) : Es (sSet i f δ μ) R = Ev (f δ μ) (fun e μ => okc e (fun a => R .nx (δ.set i (some a)) μ) (fun x => R (.ex x) δ μ)) := by
  show Es (eS _ _ _) _ = _
  rw [Es_eS]; refine Ev_ext fun e μ => ?_; cases e <;> simp
@[simp] theorem Es_ex (f : Fz Sv) : Es (sEx f δ μ) R = Ev (f δ μ) (fun e μ => okc e (fun a => R .nx δ μ) (fun x => R (.ex x) δ μ)) := by
  show Es (eS _ _ _) _ = _
  rw [Es_eS]; refine Ev_ext fun e μ => ?_; cases e <;> simp
@[simp] theorem Es_ret (f : Fz Sv) : Es (sRet f δ μ) R = Ev (f δ μ) (fun e μ => okc e (fun a => R (.rt a) δ μ) (fun x => R (.ex x) δ μ)) := by
  show Es (eS _ _ _) _ = _
  rw [Es_eS]; refine Ev_ext fun e μ => ?_; cases e <;> simp
@[simp] theorem Es_if (c : Fz Bool) (S T : Sz) : Es (sIf c S T δ μ) R = Ev (c δ μ) (fun e μ => okc e (fun b => if b = true then Es (S δ μ) R else Es (T δ μ) R) (fun x => R (.ex x) δ μ)) := by
  show Es (eS _ _ _) _ = _
  rw [Es_eS]; refine Ev_ext fun e μ => ?_; cases e <;> simp
@[simp] theorem Es_for (fi : Fz (List Sv)) (g : Tz) (S : Sz) : Es (sFor fi g S δ μ) R = Ev (fi δ μ) (fun e μ => okc e (fun items => Es (forL g S items δ μ) R) (fun x => R (.ex x) δ μ)) := by
  show Es (eS _ _ _) _ = _
  rw [Es_eS]
@[simp] theorem Es_put (fo fi fv : Fz Sv) : Es (sPut fo fi fv δ μ) R = Ev (fv δ μ) (fun e μ => okc e (fun v => Ev (fo δ μ) (fun e μ => okc e (fun o => Ev (fi δ μ) (fun e μ => okc e (fun i => Es (setAt o i v δ μ) R) (fun x => R (.ex x) δ μ))) (fun x => R (.ex x) δ μ))) (fun x => R (.ex x) δ μ)) := by
  show Es (eS _ _ _) _ = _
  rw [Es_eS]; refine Ev_ext fun e μ => ?_; cases e <;> simp only [okc_ok, okc_err]
  rw [Es_eS]; refine Ev_ext fun e μ => ?_; cases e <;> simp only [okc_ok, okc_err]
  rw [Es_eS]
def someD (o : Option Dl) (k : Dl → Prop) (_ : Ph k := phm k) : Prop := match o with
  | some δ => k δ
  | none => False
@[simp ↓, simp] theorem someD_s (δ : Dl) (k : Dl → Prop) : someD (some δ) k = k δ := rfl
@[simp] theorem Es_asg (g : Tz) (f : Fz Sv) : Es (sAsg g f δ μ) R = Ev (f δ μ) (fun e μ => okc e (fun a => someD (g a δ) fun δ' => R .nx δ' μ) (fun x => R (.ex x) δ μ)) := by
  show Es (eS _ _ _) _ = _
  rw [Es_eS]; refine Ev_ext fun e μ => ?_; cases e <;> simp only [okc_ok, okc_err]
  rename_i a; cases g a δ <;> simp [someD]
@[simp] theorem gN_eq (i : Nat) (x : Sv) : gN i x δ = some (δ.set i (some x)) := rfl
@[simp] theorem gT_eq (h : List Sv → Dl → Option Dl) (l : List D) : gT h (.d (.tup l)) δ = h (l.map Sv.d) δ := rfl
@[simp] theorem gE_eq : gE [] δ = some δ := rfl
@[simp] theorem gC_eq (g : Tz) (h : List Sv → Dl → Option Dl) (x : Sv) (r : List Sv) : gC g h (x :: r) δ = (g x δ).bind (h r) := rfl
def two (l : List Sv) (k : Sv → Sv → Prop) (_ : Ph k := phm k) : Prop := match l with
  | [a, b] => k a b
  | _ => False
@[simp ↓, simp] theorem two_eq (a b : Sv) (k : Sv → Sv → Prop) : two [a, b] k = k a b := rfl
@[simp] theorem Es_par (i j : Nat) (fr : Fz (List Sv)) : Es (sPar i j fr δ μ) R = Ev (fr δ μ) (fun e μ => okc e (fun l => two l fun v w => R .nx ((δ.set i (some v)).set j (some w)) μ) (fun x => R (.ex x) δ μ)) := by
  show Es (eS _ _ _) _ = _
  rw [Es_eS]; refine Ev_ext fun e μ => ?_; cases e <;> simp only [okc_ok, okc_err]
  rename_i l
  match l with
  | [] => simp [two]
  | [a] => simp [two]
  | [a, b] => simp
  | a :: b :: c :: r => simp [two]
end
/-! ### loops -/
theorem Es_forL {g : Tz} {S : Sz} {R : Fl → Dl → Mu → Prop} (I : Nat → Dl → Mu → Prop) : ∀ (xs : List Sv) (j : Nat) (δ : Dl) (μ : Mu), I j δ μ →
    (∀ (i : Nat) (x : Sv) (δ : Dl) (μ : Mu), xs[i]? = some x → I (j + i) δ μ → someD (g x δ) fun δ1 => Es (S δ1 μ) fun f δ2 μ2 => match f with
      | .nx => I (j + i + 1) δ2 μ2
      | .ct => I (j + i + 1) δ2 μ2
      | .bk => R .nx δ2 μ2
      | f => R f δ2 μ2) →
    (∀ δ μ, I (j + xs.length) δ μ → R .nx δ μ) → Es (forL g S xs δ μ) R
  | [], j, δ, μ, h0, _, he => by
    show Es (some (.nx, δ, μ)) R
    rw [Es_some]; exact he δ μ h0
  | x :: xs, j, δ, μ, h0, hs, he => by
    have h := hs 0 x δ μ rfl h0
    show Es (match g x δ with
      | none => none
      | some δ1 => match S δ1 μ with
        | some (.nx, δ2, μ2) => forL g S xs δ2 μ2
        | some (.ct, δ2, μ2) => forL g S xs δ2 μ2
        | some (.bk, δ2, μ2) => some (.nx, δ2, μ2)
        | r => r) R
    cases hg : g x δ with
    | none => rw [hg] at h; exact h.elim
    | some δ1 =>
      rw [hg] at h
      simp only [someD_s] at h
      obtain ⟨f, δ2, μ2, e, p⟩ := h
      simp only [e]
      have st : ∀ (i : Nat) (y : Sv) (δ : Dl) (μ : Mu), xs[i]? = some y → I (j + 1 + i) δ μ → someD (g y δ) fun δ1 => Es (S δ1 μ) fun f δ2 μ2 => match f with
          | .nx => I (j + 1 + i + 1) δ2 μ2
          | .ct => I (j + 1 + i + 1) δ2 μ2
          | .bk => R .nx δ2 μ2
          | f => R f δ2 μ2 := by
        intro i y δ μ e1 h1
        have e3 : j + 1 + i = j + (i + 1) := by omega
        rw [e3] at h1 ⊢
        exact hs (i + 1) y δ μ e1 h1
      have en : ∀ δ μ, I (j + 1 + xs.length) δ μ → R .nx δ μ := fun δ μ h => he δ μ (by
        have e3 : j + (x :: xs).length = j + 1 + xs.length := by simp only [List.length_cons]; omega
        rw [e3]; exact h)
      cases f with
      | nx => exact Es_forL I xs (j + 1) δ2 μ2 p st en
      | ct => exact Es_forL I xs (j + 1) δ2 μ2 p st en
      | bk => rw [Es_some]; exact p
      | rt v => rw [Es_some]; exact p
      | ex v => rw [Es_some]; exact p
theorem Es_whileN {c : Fz Bool} {S : Sz} {R : Fl → Dl → Mu → Prop} (I : Nat → Dl → Mu → Prop)
    (hs : ∀ n δ μ, I n δ μ → Ev (c δ μ) fun e μ => okc e (fun b => if b = true then Es (S δ μ) (fun f δ2 μ2 => match f with
      | .nx => ∃ m, m < n ∧ I m δ2 μ2
      | .ct => ∃ m, m < n ∧ I m δ2 μ2
      | .bk => R .nx δ2 μ2
      | f => R f δ2 μ2) else R .nx δ μ) (fun x => R (.ex x) δ μ)) :
    ∀ n δ μ, I n δ μ → ∃ k r, whileN c S k δ μ = some r ∧ R r.1 r.2.1 r.2.2 := by
  intro n
  induction n using Nat.strongRecOn with
  | _ n ih =>
    intro δ μ h
    obtain ⟨e, μ1, e1, p⟩ := hs n δ μ h
    cases e with
    | error x => exact ⟨1, (.ex x, δ, μ1), by simp [whileN, e1], p⟩
    | ok b =>
      cases b with
      | false => exact ⟨1, (.nx, δ, μ1), by simp [whileN, e1], by simpa using p⟩
      | true =>
        simp only [okc_ok, if_true] at p
        obtain ⟨f, δ2, μ2, e2, q⟩ := p
        cases f with
        | nx =>
          obtain ⟨m, hm, i⟩ := q
          obtain ⟨k, r, e3, rr⟩ := ih m hm δ2 μ2 i
          exact ⟨k + 1, r, by simp [whileN, e1, e2, e3], rr⟩
        | ct =>
          obtain ⟨m, hm, i⟩ := q
          obtain ⟨k, r, e3, rr⟩ := ih m hm δ2 μ2 i
          exact ⟨k + 1, r, by simp [whileN, e1, e2, e3], rr⟩
        | bk => exact ⟨1, (.nx, δ2, μ2), by simp [whileN, e1, e2], q⟩
        | rt v => exact ⟨1, (.rt v, δ2, μ2), by simp [whileN, e1, e2], q⟩
        | ex v => exact ⟨1, (.ex v, δ2, μ2), by simp [whileN, e1, e2], q⟩
theorem Es_while {c : Fz Bool} {S : Sz} {R : Fl → Dl → Mu → Prop} {δ : Dl} {μ : Mu} (I : Nat → Dl → Mu → Prop) (n : Nat) (h0 : I n δ μ)
    (hs : ∀ n δ μ, I n δ μ → Ev (c δ μ) fun e μ => okc e (fun b => if b = true then Es (S δ μ) (fun f δ2 μ2 => match f with
      | .nx => ∃ m, m < n ∧ I m δ2 μ2
      | .ct => ∃ m, m < n ∧ I m δ2 μ2
      | .bk => R .nx δ2 μ2
      | f => R f δ2 μ2) else R .nx δ μ) (fun x => R (.ex x) δ μ)) : Es (sWhile c S δ μ) R := by
  obtain ⟨k, r, e, p⟩ := Es_whileN I hs n δ μ h0
  exact ⟨r.1, r.2.1, r.2.2, sWhile_of e, p⟩
end Z
namespace Z
open PySem PySem.Spec PyProof.Rows L2
theorem toDs_ds {xs : List Sv} {ds : List D} (h : toDs xs = some ds) : xs = ds.map Sv.d := by
  induction xs generalizing ds with
  | nil => cases h; rfl
  | cons x r ih =>
    cases x with
    | c n => cases h
    | d x =>
      cases e : toDs r with
      | none => simp [toDs, e] at h
      | some l => simp [toDs, e] at h; subst h; simp [ih e]
section
variable {P : Except Exn Sv → Mu → Prop} {R : Fl → Dl → Mu → Prop} {δ : Dl} {μ : Mu}
@[simp] theorem ifF (c p : Prop) [Decidable c] : (if c then p else False) = (c ∧ p) := by split <;> simp_all
/- arithmetic -/
@[simp] theorem oAdd_ii (i j : Int) : oAdd (.d (.int i)) (.d (.int j)) μ = okz (.int (i + j)) μ := rfl
@[simp] theorem oAdd_ib (i : Int) (k : Bool) : oAdd (.d (.int i)) (.d (.bl k)) μ = okz (.int (i + b2i k)) μ := rfl
@[simp] theorem oAdd_ss (a b : List Nat) : oAdd (.d (.str a)) (.d (.str b)) μ = if a.length + b.length ≤ 16777216 then okz (.str (a ++ b)) μ else none := rfl
@[simp] theorem oAdd_tt (a b : List D) : oAdd (.d (.tup a)) (.d (.tup b)) μ = if a = [] then none else if a.length + b.length ≤ 16777216 then okz (.tup (a ++ b)) μ else none := rfl
@[simp] theorem oAdd_ll (a b : List D) : oAdd (.d (.lst a)) (.d (.lst b)) μ = if a.length + b.length ≤ 16777216 then okz (.lst (a ++ b)) μ else none := by
  show (match catL μ (.d (.lst a)) (.d (.lst b)) with | some l => if l.length ≤ 16777216 then okz (.lst l) μ else none | none => none) = _
  have : catL μ (.d (.lst a)) (.d (.lst b)) = some (a ++ b) := by
    show toDs (a.map Sv.d ++ b.map Sv.d) = _
    rw [← List.map_append, toDs_map]
  rw [this]; simp
@[simp] theorem oSub_ii (i j : Int) : oSub (.d (.int i)) (.d (.int j)) μ = okz (.int (i - j)) μ := rfl
@[simp] theorem oDiv_ii (i j : Int) : oDiv (.d (.int i)) (.d (.int j)) μ = if 0 < j ∧ j < 1073741824 then okz (.int (i / j)) μ else none := by simp [oDiv, oII]
@[simp] theorem oMod_ii (i j : Int) : oMod (.d (.int i)) (.d (.int j)) μ = if 0 < j then okz (.int (i % j)) μ else none := by simp [oMod, oII]
@[simp] theorem oPow_ii (i j : Int) : oPow (.d (.int i)) (.d (.int j)) μ = if 0 ≤ j ∧ j ≤ 1000000 ∧ i.natAbs < 2 ^ 64 then okz (.int (i ^ j.toNat)) μ else none := by simp [oPow, oII]
theorem oMulI_ii (i j : Int) (h : (-(2 ^ 64) < i ∧ i < 2 ^ 64) ∨ (-(2 ^ 64) < j ∧ j < 2 ^ 64)) : oMulI (.d (.int i)) (.d (.int j)) μ = okz (.int (i * j)) μ := by
  show (if decide _ = true then _ else _) = _
  rw [decide_eq_true h]; rfl
@[simp] theorem Ev_mulI (i j : Int) : Ev (oMulI (.d (.int i)) (.d (.int j)) μ) P = (((-18446744073709551616 < i ∧ i < 18446744073709551616) ∨ (-18446744073709551616 < j ∧ j < 18446744073709551616)) ∧ P (.ok (.d (.int (i * j)))) μ) := by
  show Ev (if decide ((-(2 ^ 64) < i ∧ i < 2 ^ 64) ∨ (-(2 ^ 64) < j ∧ j < 2 ^ 64)) = true then _ else _) P = _
  simp
@[simp] theorem oNeg_i (i : Int) : oNeg (.d (.int i)) μ = okz (.int (-i)) μ := rfl
@[simp] theorem oLt_ii (i j : Int) : oLt (.d (.int i)) (.d (.int j)) μ = okz (.bl (decide (i < j))) μ := rfl
@[simp] theorem oLe_ii (i j : Int) : oLe (.d (.int i)) (.d (.int j)) μ = okz (.bl (decide (i ≤ j))) μ := rfl
@[simp] theorem oGt_ii (i j : Int) : oGt (.d (.int i)) (.d (.int j)) μ = okz (.bl (decide (i > j))) μ := rfl
@[simp] theorem oGe_ii (i j : Int) : oGe (.d (.int i)) (.d (.int j)) μ = okz (.bl (decide (i ≥ j))) μ := rfl
@[simp] theorem oIsN_d (d : D) : oIsN (.d d) (.d .non) μ = okz (.bl (isNon (.d d))) μ := rfl
@[simp] theorem oNotN_d (d : D) : oNotN (.d d) (.d .non) μ = okz (.bl (!isNon (.d d))) μ := rfl
def eqc (o : Option Bool) (k : Bool → Prop) (_ : Ph k := phm k) : Prop := match o with
  | some b => k b
  | none => False
@[simp ↓, simp] theorem eqc_s (b : Bool) (k : Bool → Prop) : eqc (some b) k = k b := rfl
@[simp] theorem Ev_eq (a b : D) : Ev (oEq (.d a) (.d b) μ) P = eqc (eqD a b) fun r => P (.ok (.d (.bl r))) μ := by
  show Ev (match eqD a b with | some r => okz (.bl r) μ | none => none) P = _
  cases eqD a b <;> simp [eqc]
@[simp] theorem Ev_ne (a b : D) : Ev (oNe (.d a) (.d b) μ) P = eqc (eqD a b) fun r => P (.ok (.d (.bl (!r)))) μ := by
  show Ev (match eqD a b with | some r => okz (.bl (!r)) μ | none => none) P = _
  cases eqD a b <;> simp [eqc]
@[simp] theorem eqD_ii (i j : Int) : eqD (.int i) (.int j) = some (decide (i = j)) := rfl
theorem str_dec (a b : List Nat) : (decide ((⟨a.toArray⟩ : Str) = ⟨b.toArray⟩)) = decide (a = b) := by
  apply decide_eq_decide.2
  constructor
  · intro h; cases h; rfl
  · rintro rfl; rfl
/- places -/
@[simp] theorem Ev_ixS (s : List Nat) (i : Int) : Ev (oIx (.d (.str s)) (.d (.int i)) μ) P = (s.length ≤ 16777216 ∧ ∃ c, L2.atI s i = some c ∧ P (.ok (.d (.str [c]))) μ) := by
  show Ev (if s.length ≤ 16777216 then (match L2.atI s i with | some c => okz (.str [c]) μ | none => none) else none) P = _
  cases L2.atI s i <;> simp
@[simp] theorem Ev_ixL (s : List D) (i : Int) : Ev (oIx (.d (.lst s)) (.d (.int i)) μ) P = (∃ c, L2.atI s i = some c ∧ P (.ok (.d c)) μ) := by
  show Ev (match L2.atI s i with | some c => okz c μ | none => none) P = _
  cases L2.atI s i <;> simp
@[simp] theorem Ev_ixT (s : List D) (i : Int) : Ev (oIx (.d (.tup s)) (.d (.int i)) μ) P = (∃ c, L2.atI s i = some c ∧ P (.ok (.d c)) μ) := by
  show Ev (match L2.atI s i with | some c => okz c μ | none => none) P = _
  cases L2.atI s i <;> simp
theorem Ev_ixK {n : Nat} {kvs : List (Key × Sv)} {b : Sv} {k : Key} {x : Sv} (h : μ[n]? = some (.dct kvs)) (hk : keyOf b = some k) (hl : lookK kvs k = some x) : Ev (oIx (.c n) b μ) P = P (.ok x) μ := by
  have : oIx (.c n) b μ = some (.ok x, μ) := by simp [oIx, h, hk, hl]
  rw [this, Ev_some]
theorem Ev_ixC {n : Nat} {xs : List Sv} {i : Int} (h : μ[n]? = some (.lst xs)) : Ev (oIx (.c n) (.d (.int i)) μ) P = (∃ x, L2.atI xs i = some x ∧ P (.ok x) μ) := by
  cases e : L2.atI xs i with
  | none =>
    have : oIx (.c n) (.d (.int i)) μ = none := by simp [oIx, h, e]
    rw [this]; simp
  | some x =>
    have : oIx (.c n) (.d (.int i)) μ = some (.ok x, μ) := by simp [oIx, h, e]
    rw [this]; simp
theorem atI_of {α : Type} {l : List α} {i : Int} (h0 : 0 ≤ i) (h1 : i < l.length) : ∃ x, L2.atI l i = some x ∧ l[i.toNat]? = some x ∧ x ∈ l := by
  have hx : i.toNat < l.length := by omega
  have e : L2.atI l i = l[i.toNat]? := by simp [L2.atI, L2.ixN, h0, h1]
  exact ⟨l[i.toNat], by rw [e]; simp [hx], by simp [hx], List.getElem_mem hx⟩
theorem atI_eq {α : Type} {l : List α} {i : Int} (h0 : 0 ≤ i) (h1 : i < l.length) : L2.atI l i = l[i.toNat]? := by simp [L2.atI, L2.ixN, h0, h1]
@[simp] theorem Ev_No {P : Except Exn (Option Int) → Mu → Prop} : Ev (fNo δ μ) P = P (.ok none) μ := Ev_some ..
def inc (v : Sv) (k : Int → Prop) (_ : Ph k := phm k) : Prop := match v with
  | .d (.int i) => k i
  | _ => False
@[simp ↓, simp] theorem inc_i (i : Int) (k : Int → Prop) : inc (.d (.int i)) k = k i := rfl
@[simp] theorem Ev_Pt (fa : Fz Sv) {P : Except Exn (Option Int) → Mu → Prop} : Ev (fPt fa δ μ) P = Ev (fa δ μ) (fun e μ => okc e (fun a => inc a fun i => P (.ok (some i)) μ) (fun x => P (.error x) μ)) := by
  show Ev (Rz.bind _ _) _ = _
  rw [Ev_bind]; refine Ev_ext fun e μ => ?_; cases e
  · rfl
  · rename_i a; simp only [okc_ok]
    match a with
    | .d (.bl _) => simp [inc]
    | .d .non => simp [inc]
    | .d (.int _) => simp [inc]
    | .d (.str _) => simp [inc]
    | .d (.lst _) => simp [inc]
    | .d (.tup _) => simp [inc]
    | .d (.ins _ _) => simp [inc]
    | .d (.exc _ _) => simp [inc]
    | .c _ => simp [inc]
@[simp] theorem Ev_Sl (fa : Fz Sv) (fl fh : Fz (Option Int)) : Ev (fSl fa fl fh δ μ) P = Ev (fa δ μ) (fun e μ => okc e (fun a => Ev (fl δ μ) (fun e μ => okc e (fun lo => Ev (fh δ μ) (fun e μ => okc e (fun hi => Ev (oSl a lo hi μ) P) (fun x => P (.error x) μ))) (fun x => P (.error x) μ))) (fun x => P (.error x) μ)) := by
  show Ev (Rz.bind _ _) _ = _
  rw [Ev_bind]; refine Ev_ext fun e μ => ?_; cases e <;> simp only [okc_ok, okc_err]
  rw [Ev_bind]; refine Ev_ext fun e μ => ?_; cases e <;> simp only [okc_ok, okc_err]
  rw [Ev_bind]
@[simp] theorem oSl_s (s : List Nat) (lo hi : Option Int) : oSl (.d (.str s)) lo hi μ = if s.length ≤ 16777216 then okz (.str (cutL s lo hi)) μ else none := rfl
@[simp] theorem oSl_l (s : List D) (lo hi : Option Int) : oSl (.d (.lst s)) lo hi μ = okz (.lst (cutL s lo hi)) μ := by
  show (match toDs (cutL (s.map Sv.d) lo hi) with | some ds => okz (.lst ds) μ | none => none) = _
  rw [cutL_map, toDs_map]
theorem cutL_len {α : Type} (xs : List α) (lo hi : Option Int) : (cutL xs lo hi).length ≤ xs.length := by simp [cutL]; omega
theorem cutL_mem {α : Type} {xs : List α} {lo hi : Option Int} {x : α} (h : x ∈ cutL xs lo hi) : x ∈ xs := List.drop_subset _ _ (List.take_subset _ _ h)
theorem cutL_to {α : Type} (xs : List α) (j : Int) (h : 0 ≤ j) : cutL xs none (some j) = xs.take j.toNat := by
  have e : HT.sIx xs.length xs.length (some j) = min j.toNat xs.length := by
    show (if j < 0 then (j + (xs.length : Int)).toNat else min j.toNat xs.length) = _
    rw [if_neg (by omega)]
  have e0 : HT.sIx xs.length 0 none = 0 := rfl
  rw [cutL, e, e0]
  rcases Nat.le_total j.toNat xs.length with h1 | h1
  · rw [Nat.min_eq_left h1]; rfl
  · rw [Nat.min_eq_right h1, List.take_of_length_le h1]; simp
theorem cutL_from {α : Type} (xs : List α) (j : Int) (h : 0 ≤ j) : cutL xs (some j) none = xs.drop j.toNat := by
  have e : HT.sIx xs.length 0 (some j) = min j.toNat xs.length := by
    show (if j < 0 then (j + (xs.length : Int)).toNat else min j.toNat xs.length) = _
    rw [if_neg (by omega)]
  have e0 : HT.sIx xs.length xs.length none = xs.length := rfl
  rw [cutL, e, e0, List.take_of_length_le (by simp)]
  rcases Nat.le_total j.toNat xs.length with h1 | h1
  · rw [Nat.min_eq_left h1]
  · rw [Nat.min_eq_right h1, List.drop_eq_nil_of_le (Nat.le_refl _), List.drop_eq_nil_of_le h1]
theorem cutL_mid {α : Type} (xs : List α) (i j : Int) (h : 0 ≤ i) (h1 : 0 ≤ j) : cutL xs (some i) (some j) = (xs.take j.toNat).drop i.toNat := by
  have e : HT.sIx xs.length xs.length (some j) = min j.toNat xs.length := by
    show (if j < 0 then (j + (xs.length : Int)).toNat else min j.toNat xs.length) = _
    rw [if_neg (by omega)]
  have e0 : HT.sIx xs.length 0 (some i) = min i.toNat xs.length := by
    show (if i < 0 then (i + (xs.length : Int)).toNat else min i.toNat xs.length) = _
    rw [if_neg (by omega)]
  rw [cutL, e, e0]
  apply List.ext_getElem?
  intro k
  simp only [List.getElem?_take, List.getElem?_drop]
  by_cases hk : min i.toNat xs.length + k < xs.length
  · by_cases hi : i.toNat ≤ xs.length
    · rw [Nat.min_eq_left hi]
      by_cases h2 : i.toNat + k < j.toNat
      · rw [if_pos (by omega), if_pos h2]
      · rw [if_neg (by omega), if_neg h2]
    · rw [List.getElem?_eq_none (by omega), List.getElem?_eq_none (by omega)]; simp
  · rw [List.getElem?_eq_none (by omega), List.getElem?_eq_none (by omega)]; simp
/- made of parts -/
def dsc (l : List Sv) (k : List D → Prop) (_ : Ph k := phm k) : Prop := match toDs l with
  | some ds => k ds
  | none => False
@[simp ↓, simp] theorem dsc_nil (k : List D → Prop) : dsc [] k = k [] := rfl
@[simp ↓, simp] theorem dsc_cons (x : D) (l : List Sv) (k : List D → Prop) : dsc (.d x :: l) k = dsc l fun ds => k (x :: ds) := by
  show (match (toDs l).map (fun r => x :: r) with | some ds => k ds | none => False) = match toDs l with | some ds => k (x :: ds) | none => False
  cases toDs l <;> rfl
@[simp ↓, simp] theorem dsc_map (l : List D) (k : List D → Prop) : dsc (l.map Sv.d) k = k l := by simp [dsc, toDs_map]
@[simp] theorem Ev_Lst (fr : Fz (List Sv)) : Ev (fLst fr δ μ) P = Ev (fr δ μ) (fun e μ => okc e (fun as => dsc as fun ds => ds.length ≤ 16777216 ∧ P (.ok (.d (.lst ds))) μ) (fun x => P (.error x) μ)) := by
  show Ev (Rz.bind _ _) _ = _
  rw [Ev_bind]; refine Ev_ext fun e μ => ?_; cases e
  · rfl
  · rename_i a; simp only [okc_ok, dsc]; cases toDs a <;> simp
@[simp] theorem Ev_Tup (fr : Fz (List Sv)) : Ev (fTup fr δ μ) P = Ev (fr δ μ) (fun e μ => okc e (fun as => dsc as fun ds => ds.length ≤ 16777216 ∧ P (.ok (.d (.tup ds))) μ) (fun x => P (.error x) μ)) := by
  show Ev (Rz.bind _ _) _ = _
  rw [Ev_bind]; refine Ev_ext fun e μ => ?_; cases e
  · rfl
  · rename_i a; simp only [okc_ok, dsc]; cases toDs a <;> simp
/- the builtins -/
@[simp] theorem bLen_s (s : List Nat) : bLen [.d (.str s)] μ = if s.length ≤ 16777216 then okz (.int s.length) μ else none := rfl
@[simp] theorem bLen_l (s : List D) : bLen [.d (.lst s)] μ = okz (.int s.length) μ := rfl
@[simp] theorem bLen_t (s : List D) : bLen [.d (.tup s)] μ = okz (.int s.length) μ := rfl
@[simp] theorem bMax2_i (i j : Int) : bMax2 [.d (.int i), .d (.int j)] μ = okz (.int (max i j)) μ := by
  show okz (.int (if j > i then j else i)) μ = _
  congr 2; by_cases h : j > i
  · rw [if_pos h]; omega
  · rw [if_neg h]; omega
@[simp] theorem bMin2_i (i j : Int) : bMin2 [.d (.int i), .d (.int j)] μ = okz (.int (min i j)) μ := by
  show okz (.int (if j < i then j else i)) μ = _
  congr 2; by_cases h : j < i
  · rw [if_pos h]; omega
  · rw [if_neg h]; omega
@[simp] theorem bInt_i (i : Int) : bInt [.d (.int i)] μ = okz (.int i) μ := rfl
@[simp] theorem bInt_b (i : Bool) : bInt [.d (.bl i)] μ = okz (.int (if i then 1 else 0)) μ := rfl
@[simp] theorem bTuple_t (l : List D) : bTuple [.d (.tup l)] μ = okz (.tup l) μ := rfl
@[simp] theorem bTuple_l (l : List D) : bTuple [.d (.lst l)] μ = okz (.tup l) μ := by
  show (match toDs (l.map Sv.d) with | some ds => okz (.tup ds) μ | none => none) = _
  rw [toDs_map]
@[simp] theorem bList_t (l : List D) : bList [.d (.tup l)] μ = okz (.lst l) μ := by
  show (match toDs (l.map Sv.d) with | some ds => okz (.lst ds) μ | none => none) = _
  rw [toDs_map]
@[simp] theorem bList_l (l : List D) : bList [.d (.lst l)] μ = okz (.lst l) μ := by
  show (match toDs (l.map Sv.d) with | some ds => okz (.lst ds) μ | none => none) = _
  rw [toDs_map]
def tyc (tab : Tg → Option Bool) (o : Option Tg) (k : Bool → Prop) (_ : Ph k := phm k) : Prop := match o.bind tab with
  | some b => k b
  | none => False
@[simp] theorem Ev_isi (tab : Tg → Option Bool) (fa : Fz Sv) : Ev (fIsi tab fa δ μ) P = Ev (fa δ μ) (fun e μ => okc e (fun a => tyc tab (tgOf μ a) fun b => P (.ok (.d (.bl b))) μ) (fun x => P (.error x) μ)) := by
  show Ev (Rz.bind _ _) _ = _
  rw [Ev_bind]; refine Ev_ext fun e μ => ?_; cases e
  · rfl
  · rename_i a; simp only [okc_ok, tyc]; cases tgOf μ a
    · simp
    · rename_i t; simp; cases tab t <;> simp
@[simp] theorem tgOf_i (i : Int) : tgOf μ (.d (.int i)) = some (.b "int") := rfl
@[simp] theorem tgOf_b (i : Bool) : tgOf μ (.d (.bl i)) = some (.b "bool") := rfl
@[simp] theorem tgOf_s (i : List Nat) : tgOf μ (.d (.str i)) = some (.b "str") := rfl
@[simp] theorem tgOf_l (i : List D) : tgOf μ (.d (.lst i)) = some (.b "list") := rfl
@[simp] theorem tgOf_t (i : List D) : tgOf μ (.d (.tup i)) = some (.b "tuple") := rfl
@[simp] theorem tgOf_n : tgOf μ (.d .non) = some (.b "NoneType") := rfl
@[simp ↓, simp] theorem tyc_b (T n : String) (k : Bool → Prop) : tyc (isB T) (some (.b n)) k = (n ∈ seven ∧ k (isT T n)) := by
  simp only [tyc, Option.bind, isB]
  by_cases h : n ∈ seven <;> simp [h]
@[simp] theorem seven_a : ("int" ∈ seven) = True := by simp [seven]
@[simp] theorem seven_b : ("bool" ∈ seven) = True := by simp [seven]
@[simp] theorem seven_c : ("str" ∈ seven) = True := by simp [seven]
@[simp] theorem seven_d : ("list" ∈ seven) = True := by simp [seven]
@[simp] theorem seven_e : ("tuple" ∈ seven) = True := by simp [seven]
@[simp] theorem seven_f : ("NoneType" ∈ seven) = True := by simp [seven]
@[simp] theorem seven_g : ("dict" ∈ seven) = True := by simp [seven]
@[simp] theorem isT_eq (T n : String) : isT T n = (n == T || (T == "int" && n == "bool")) := rfl
@[simp] theorem Ev_M (T : String) (m : Opm) (fo : Fz Sv) (fr : Fz (List Sv)) : Ev (fM T m fo fr δ μ) P = Ev (fo δ μ) (fun e μ => okc e (fun o => tyS T μ o = true ∧ Ev (fr δ μ) (fun e μ => okc e (fun as => Ev (m o as μ) P) (fun x => P (.error x) μ))) (fun x => P (.error x) μ)) := by
  show Ev (Rz.bind _ _) _ = _
  rw [Ev_bind]; refine Ev_ext fun e μ => ?_; cases e
  · rfl
  · rename_i a; simp only [okc_ok]; by_cases h : tyS T μ a = true <;> simp [h, Ev_bind]
@[simp] theorem tyS_s (T : String) (s : List Nat) : tyS T μ (.d (.str s)) = (T == "str") := rfl
@[simp] theorem mEnds_s (s t : List Nat) : mEnds (.d (.str s)) [.d (.str t)] μ = okz (.bl (endsL s t)) μ := rfl
def revO (a : Sv) (μ : Mu) : Rz Sv := match a with
  | .d (.str s) => if s.length ≤ 16777216 then okz (.str s.reverse) μ else none
  | a => match lstV μ a with
    | some xs => match toDs xs with
      | some ds => okz (.lst ds.reverse) μ
      | none => none
    | none => none
@[simp] theorem Ev_Rev (fa : Fz Sv) : Ev (fRev fa δ μ) P = Ev (fa δ μ) (fun e μ1 => okc e (fun a => Ev (revO a μ1) P) (fun x => P (.error x) μ1)) := by
  show Ev (Rz.bind _ (fun a μ => revO a μ)) _ = _
  rw [Ev_bind]
@[simp] theorem revO_s (s : List Nat) : revO (.d (.str s)) μ = if s.length ≤ 16777216 then okz (.str s.reverse) μ else none := rfl
@[simp] theorem revO_l (s : List D) : revO (.d (.lst s)) μ = okz (.lst s.reverse) μ := by
  show (match toDs (s.map Sv.d) with | some ds => okz (.lst ds.reverse) μ | none => none) = _
  rw [toDs_map]
theorem Ev_lnk (v : Sv) (k : Mu → Rz Sv) : Ev (lnk v μ k) P = blc v fun b => if b = true then Ev (k μ) P else P (.ok (.d (.bl false))) μ := by
  match v with
  | .d (.bl true) => simp [lnk]
  | .d (.bl false) => simp [lnk]
  | .d .non => simp [blc, lnk]
  | .d (.int _) => simp [blc, lnk]
  | .d (.str _) => simp [blc, lnk]
  | .d (.lst _) => simp [blc, lnk]
  | .d (.tup _) => simp [blc, lnk]
  | .d (.ins _ _) => simp [blc, lnk]
  | .d (.exc _ _) => simp [blc, lnk]
  | .c _ => simp [blc, lnk]
def chc (o : Op2) (f : Fz Sv) (δ : Dl) (b : Sv) (μ : Mu) : Rz Sv := (f δ μ).bind fun c μ => o b c μ
def chc2 (o o' : Op2) (f g : Fz Sv) (δ : Dl) (b : Sv) (μ : Mu) : Rz Sv := (f δ μ).bind fun c μ => (o b c μ).bind fun v μ => lnk v μ fun μ => (g δ μ).bind fun d μ => o' c d μ
@[simp] theorem Ev_chc (o : Op2) (f : Fz Sv) (b : Sv) : Ev (chc o f δ b μ) P = Ev (f δ μ) (fun e μ => okc e (fun c => Ev (o b c μ) P) (fun x => P (.error x) μ)) := Ev_bind ..
@[simp] theorem Ev_ch (o o' : Op2) (fa fb fc : Fz Sv) : Ev (fCh o o' fa fb fc δ μ) P = Ev (fa δ μ) (fun e μ => okc e (fun a => Ev (fb δ μ) (fun e μ => okc e (fun b => Ev (o a b μ) (fun e μ => okc e (fun v => blc v fun t => if t = true then Ev (chc o' fc δ b μ) P else P (.ok (.d (.bl false))) μ) (fun x => P (.error x) μ))) (fun x => P (.error x) μ))) (fun x => P (.error x) μ)) := by
  show Ev (Rz.bind _ _) _ = _
  rw [Ev_bind]; refine Ev_ext fun e μ => ?_; cases e <;> simp only [okc_ok, okc_err]
  rw [Ev_bind]; refine Ev_ext fun e μ => ?_; cases e <;> simp only [okc_ok, okc_err]
  rw [Ev_bind]; refine Ev_ext fun e μ => ?_; cases e <;> simp only [okc_ok, okc_err]
  rw [Ev_lnk]; rfl
@[simp] theorem Ev_chc2 (o o' : Op2) (f g : Fz Sv) (b : Sv) : Ev (chc2 o o' f g δ b μ) P = Ev (f δ μ) (fun e μ => okc e (fun c => Ev (o b c μ) (fun e μ => okc e (fun v => blc v fun t => if t = true then Ev (chc o' g δ c μ) P else P (.ok (.d (.bl false))) μ) (fun x => P (.error x) μ))) (fun x => P (.error x) μ)) := by
  show Ev (Rz.bind _ _) _ = _
  rw [Ev_bind]; refine Ev_ext fun e μ => ?_; cases e <;> simp only [okc_ok, okc_err]
  rw [Ev_bind]; refine Ev_ext fun e μ => ?_; cases e <;> simp only [okc_ok, okc_err]
  rw [Ev_lnk]; rfl
@[simp] theorem Ev_ch3 (o o' o'' : Op2) (fa fb fc fd : Fz Sv) : Ev (fCh3 o o' o'' fa fb fc fd δ μ) P = Ev (fa δ μ) (fun e μ => okc e (fun a => Ev (fb δ μ) (fun e μ => okc e (fun b => Ev (o a b μ) (fun e μ => okc e (fun v => blc v fun t => if t = true then Ev (chc2 o' o'' fc fd δ b μ) P else P (.ok (.d (.bl false))) μ) (fun x => P (.error x) μ))) (fun x => P (.error x) μ))) (fun x => P (.error x) μ)) := by
  show Ev (Rz.bind _ _) _ = _
  rw [Ev_bind]; refine Ev_ext fun e μ => ?_; cases e <;> simp only [okc_ok, okc_err]
  rw [Ev_bind]; refine Ev_ext fun e μ => ?_; cases e <;> simp only [okc_ok, okc_err]
  rw [Ev_bind]; refine Ev_ext fun e μ => ?_; cases e <;> simp only [okc_ok, okc_err]
  rw [Ev_lnk]; rfl
@[simp] theorem eqD_ss (a b : List Nat) : eqD (.str a) (.str b) = some (decide (a = b)) := by
  show some (decide ((⟨a.toArray⟩ : Str) = ⟨b.toArray⟩)) = _
  rw [str_dec]
end
/- the texts that join makes -/
theorem toStrs_map : ∀ l : List (List Nat), toStrs (l.map D.str) = some l
  | [] => rfl
  | x :: r => by simp [toStrs, toStrs_map r]
@[simp] theorem mJoin_s (sep : List Nat) (l : List (List Nat)) (μ : Mu) : mJoin (.d (.str sep)) [.d (.lst (l.map D.str))] μ = if (l.map List.length).sum + l.length * sep.length ≤ 16777216 then okz (.str (joinL sep l)) μ else none := by
  show (match toDs ((l.map D.str).map Sv.d) with
      | some ds => match toStrs ds with
        | some ss => if (ss.map List.length).sum + ss.length * sep.length ≤ 16777216 then okz (.str (joinL sep ss)) μ else none
        | none => none
      | none => none) = _
  rw [toDs_map]; simp only [toStrs_map]
theorem joinL_nil : ∀ l : List (List Nat), joinL [] l = l.flatten
  | [] => rfl
  | [x] => by simp [joinL]
  | x :: y :: r => by
    show x ++ ([] ++ joinL [] (y :: r)) = _
    rw [joinL_nil (y :: r)]; simp
/- a run of a function's body -/
def rtc (μ : Mu) (P : Except Exn Sv → Mu → Prop) (f : Fl) (μ' : Mu) : Prop := match f with
  | .rt (.d x) => P (.ok (.d x)) (gcM μ μ')
  | .rt (.c m) => P (.ok (.c m)) μ'
  | .nx => P (.ok (.d .non)) (gcM μ μ')
  | .ex x => P (.error x) (gcM μ μ')
  | _ => False
@[simp] theorem rtc_d (μ μ' : Mu) (P : Except Exn Sv → Mu → Prop) (x : D) : rtc μ P (.rt (.d x)) μ' = P (.ok (.d x)) (gcM μ μ') := rfl
@[simp] theorem rtc_c (μ μ' : Mu) (P : Except Exn Sv → Mu → Prop) (x : Nat) : rtc μ P (.rt (.c x)) μ' = P (.ok (.c x)) μ' := rfl
@[simp] theorem rtc_n (μ μ' : Mu) (P : Except Exn Sv → Mu → Prop) : rtc μ P .nx μ' = P (.ok (.d .non)) (gcM μ μ') := rfl
@[simp] theorem rtc_x (μ μ' : Mu) (P : Except Exn Sv → Mu → Prop) (x : Exn) : rtc μ P (.ex x) μ' = P (.error x) (gcM μ μ') := rfl
@[simp] theorem Ev_run {P : Except Exn Sv → Mu → Prop} {μ : Mu} (n nl : Nat) (S : Sz) (svs : List Sv) : Ev (runB n nl S svs μ) P = (svs.length = n ∧ Es (S (svs.map some ++ List.replicate (nl - svs.length) none) μ) (fun f _ μ' => rtc μ P f μ')) := by
  apply propext
  by_cases h : svs.length = n
  · simp only [h, true_and]
    unfold runB
    simp only [h, if_true]
    constructor
    · rintro ⟨e, μ1, h1, p⟩
      match e2 : S (svs.map some ++ List.replicate (nl - n) none) μ, h1 with
      | some (.rt (.d x), δ, μ'), h1 => cases h1; exact ⟨_, _, _, rfl, p⟩
      | some (.rt (.c x), δ, μ'), h1 => cases h1; exact ⟨_, _, _, rfl, p⟩
      | some (.nx, δ, μ'), h1 => cases h1; exact ⟨_, _, _, rfl, p⟩
      | some (.ex x, δ, μ'), h1 => cases h1; exact ⟨_, _, _, rfl, p⟩
      | some (.bk, δ, μ'), h1 => cases h1
      | some (.ct, δ, μ'), h1 => cases h1
      | none, h1 => cases h1
    · rintro ⟨f, δ, μ', e, p⟩
      rw [e]
      match f, p with
      | .rt (.d x), p => exact ⟨_, _, rfl, p⟩
      | .rt (.c x), p => exact ⟨_, _, rfl, p⟩
      | .nx, p => exact ⟨_, _, rfl, p⟩
      | .ex x, p => exact ⟨_, _, rfl, p⟩
      | .bk, p => exact p.elim
      | .ct, p => exact p.elim
  · simp only [h, false_and, iff_false]
    unfold runB
    rw [if_neg h]; simp
/- what a run leaves behind -/
def Lk (μ μ' : Mu) : Prop := ∀ (i : Nat) (c : Cell), μ'[i]? = some c → μ[i]? = some c ∨ c.flat = true
theorem Lk.refl (μ : Mu) : Lk μ μ := fun _ _ h => .inl h
theorem gc_lk {μ μ' t : Mu} (h : Lk μ μ') (hl : μ'.length = μ.length) : gcM μ (μ' ++ t) = μ' := by
  have g : GcOk μ (μ' ++ t) := ⟨by simp [hl], fun i c hi hc => by
    rw [List.getElem?_append_left (by omega)] at hc
    exact h i c hc⟩
  unfold gcM; rw [if_pos g, ← hl]; simp
theorem gc_len {μ μ' : Mu} (hl : μ'.length = μ.length) : gcM μ μ' = μ' := by
  unfold gcM; split
  · rw [← hl]; simp
  · rfl
@[simp] theorem gc_self' (μ : Mu) : gcM μ μ = μ := gc_self μ
/- a comprehension that is a tree -/
theorem Ev_lcF {P : Except Exn Sv → Mu → Prop} {δ : Dl} {μ : Mu} {fi : Fz (List Sv)} {vs : List Nat} {g : Tz} {c : Fz Bool} {e : Fz Sv} (items : List Sv) (hi : fi δ μ = some (.ok items, μ)) (hn : items.length ≤ 16777216) (I : Nat → List D → Mu → Prop) (h0 : I 0 [] μ)
    (hs : ∀ (i : Nat) (x : Sv) (acc : List D) (μ' : Mu), items[i]? = some x → acc.length ≤ i → μ'.length = μ.length → I i acc μ' → someD (g x (wipeZ δ vs)) fun δ1 => Ev (c δ1 (μ' ++ [.lst (acc.map Sv.d)])) fun r μ2 => ∃ b, r = .ok b ∧
      if b = true then Ev (e δ1 μ2) fun r μ3 => ∃ y μ'', r = .ok (.d y) ∧ μ3 = μ'' ++ [.lst (acc.map Sv.d)] ∧ μ''.length = μ.length ∧ I (i + 1) (acc ++ [y]) μ''
      else ∃ μ'', μ2 = μ'' ++ [.lst (acc.map Sv.d)] ∧ μ''.length = μ.length ∧ I (i + 1) acc μ'')
    (he : ∀ acc μ', acc.length ≤ items.length → μ'.length = μ.length → I items.length acc μ' → Lk μ μ' ∧ P (.ok (.d (.lst acc))) μ') : Ev (fFrz (fLcC fi vs g c e) δ μ) P := by
  have go : ∀ (xs : List Sv) (j : Nat) (acc : List D) (μ' : Mu), (∀ i x, xs[i]? = some x → items[j + i]? = some x) → j + xs.length = items.length → acc.length ≤ j → μ'.length = μ.length → I j acc μ' → ∃ acc' μ'', lcL g c e μ.length (wipeZ δ vs) xs (μ' ++ [.lst (acc.map Sv.d)]) = some (μ'' ++ [.lst (acc'.map Sv.d)]) ∧ acc'.length ≤ items.length ∧ μ''.length = μ.length ∧ I items.length acc' μ'' := by
    intro xs
    induction xs with
    | nil =>
      intro j acc μ' hd hj hl hm h
      simp at hj; subst hj
      exact ⟨acc, μ', rfl, hl, hm, h⟩
    | cons x xs ih =>
      intro j acc μ' hd hj hl hm h
      simp only [List.length_cons] at hj
      have a := hs j x acc μ' (hd 0 x rfl) hl hm h
      cases hg : g x (wipeZ δ vs) with
      | none => rw [hg] at a; exact a.elim
      | some δ1 =>
        rw [hg] at a
        obtain ⟨r, μ2, e1, b, rfl, p⟩ := a
        have hd' : ∀ i y, xs[i]? = some y → items[j + 1 + i]? = some y := fun i y q => by
          have := hd (i + 1) y q
          rwa [show j + (i + 1) = j + 1 + i by omega] at this
        cases b with
        | true =>
          simp only [if_true] at p
          obtain ⟨r, μ3, e2, y, μ4, rfl, rfl, h4, i4⟩ := p
          obtain ⟨acc', μ5, e5, l5, m5, i5⟩ := ih (j + 1) (acc ++ [y]) μ4 hd' (by omega) (by simp; omega) h4 i4
          refine ⟨acc', μ5, ?_, l5, m5, i5⟩
          have q1 : (μ4 ++ [Cell.lst (acc.map Sv.d)])[μ.length]? = some (.lst (acc.map Sv.d)) := by
            rw [List.getElem?_append_right (by omega)]; simp [h4]
          have q2 : (μ4 ++ [Cell.lst (acc.map Sv.d)]).set μ.length (.lst (acc.map Sv.d ++ [.d y])) = μ4 ++ [.lst ((acc ++ [y]).map Sv.d)] := by
            rw [List.set_append_right _ _ (by omega)]; simp [h4]
          simp only [lcL, hg, e1, e2, q1]
          rw [if_pos (by simp; omega), q2, e5]
        | false =>
          simp only [Bool.false_eq_true, if_false] at p
          obtain ⟨μ4, rfl, h4, i4⟩ := p
          obtain ⟨acc', μ5, e5, l5, m5, i5⟩ := ih (j + 1) acc μ4 hd' (by omega) (by omega) h4 i4
          refine ⟨acc', μ5, ?_, l5, m5, i5⟩
          simp only [lcL, hg, e1, e5]
  obtain ⟨acc, μ1, e1, hl, hm, h1⟩ := go items 0 [] μ (fun i x h => by simpa using h) (by simp) (by simp) rfl h0
  obtain ⟨hk, hp⟩ := he acc μ1 hl hm h1
  have e2 : fLcC fi vs g c e δ μ = some (.ok (.c μ.length), μ1 ++ [.lst (acc.map Sv.d)]) := by
    show Rz.bind (fi δ μ) _ = _
    rw [hi]; simp only [Rz.bind_ok]
    have : (μ ++ [Cell.lst []]) = μ ++ [.lst (([] : List D).map Sv.d)] := rfl
    rw [this, e1]
  refine ⟨.ok (.d (.lst acc)), μ1, ?_, hp⟩
  show Rz.bind _ _ = _
  rw [e2]; simp only [Rz.bind_ok]
  have q1 : (μ1 ++ [Cell.lst (acc.map Sv.d)])[μ.length]? = some (.lst (acc.map Sv.d)) := by
    rw [List.getElem?_append_right (by omega)]; simp [hm]
  have q2 : (μ1 ++ [Cell.lst (acc.map Sv.d)]).set μ.length .fz = μ1 ++ [.fz] := by
    rw [List.set_append_right _ _ (by omega)]; simp [hm]
  simp only [frzV, q1, toDs_map, q2, gc_lk hk hm]
/- what loops go over -/
section
variable {P : Except Exn (List Sv) → Mu → Prop} {δ : Dl} {μ : Mu}
def rng1O (as : List Sv) (μ : Mu) : Rz (List Sv) := match as with
  | [.d (.int j)] => if -(2 ^ 62) ≤ j ∧ j < 2 ^ 62 then some (.ok (rngI 0 j.toNat), μ) else none
  | _ => none
def rng2O (as : List Sv) (μ : Mu) : Rz (List Sv) := match as with
  | [.d (.int i), .d (.int j)] => if -(2 ^ 62) ≤ i ∧ i < 2 ^ 62 ∧ -(2 ^ 62) ≤ j ∧ j < 2 ^ 62 then some (.ok (rngI i (j - i).toNat), μ) else none
  | _ => none
def enumO (as : List Sv) (μ : Mu) : Rz (List Sv) := match as with
  | [.d (.lst l)] => some (.ok (enI 0 l), μ)
  | _ => none
def zipO (as : List Sv) (μ : Mu) : Rz (List Sv) := match as with
  | [.d (.lst l), .d (.lst m)] => some (.ok (zipI l m), μ)
  | _ => none
def seqO (a : Sv) (μ : Mu) : Rz (List Sv) := match a with
  | .d (.lst l) => some (.ok (l.map Sv.d), μ)
  | .d (.tup l) => some (.ok (l.map Sv.d), μ)
  | .d (.str s) => some (.ok (s.map fun c => .d (.str [c])), μ)
  | _ => none
@[simp] theorem Ev_rng1 (fr : Fz (List Sv)) : Ev (fRng1 fr δ μ) P = Ev (fr δ μ) (fun e μ => okc e (fun a => Ev (rng1O a μ) P) (fun x => P (.error x) μ)) := by
  show Ev (Rz.bind _ (fun a μ => rng1O a μ)) _ = _
  rw [Ev_bind]
@[simp] theorem Ev_rng2 (fr : Fz (List Sv)) : Ev (fRng2 fr δ μ) P = Ev (fr δ μ) (fun e μ => okc e (fun a => Ev (rng2O a μ) P) (fun x => P (.error x) μ)) := by
  show Ev (Rz.bind _ (fun a μ => rng2O a μ)) _ = _
  rw [Ev_bind]
@[simp] theorem Ev_enum (fr : Fz (List Sv)) : Ev (fEnum fr δ μ) P = Ev (fr δ μ) (fun e μ => okc e (fun a => Ev (enumO a μ) P) (fun x => P (.error x) μ)) := by
  show Ev (Rz.bind _ (fun a μ => enumO a μ)) _ = _
  rw [Ev_bind]
@[simp] theorem Ev_zip (fr : Fz (List Sv)) : Ev (fZip fr δ μ) P = Ev (fr δ μ) (fun e μ => okc e (fun a => Ev (zipO a μ) P) (fun x => P (.error x) μ)) := by
  show Ev (Rz.bind _ (fun a μ => zipO a μ)) _ = _
  rw [Ev_bind]
@[simp] theorem Ev_seqf (fa : Fz Sv) : Ev (fSeq fa δ μ) P = Ev (fa δ μ) (fun e μ => okc e (fun a => Ev (seqO a μ) P) (fun x => P (.error x) μ)) := by
  show Ev (Rz.bind _ (fun a μ => seqO a μ)) _ = _
  rw [Ev_bind]
@[simp] theorem rng1O_i (j : Int) : rng1O [.d (.int j)] μ = if -(2 ^ 62) ≤ j ∧ j < 2 ^ 62 then some (.ok (rngI 0 j.toNat), μ) else none := rfl
@[simp] theorem rng2O_i (i j : Int) : rng2O [.d (.int i), .d (.int j)] μ = if -(2 ^ 62) ≤ i ∧ i < 2 ^ 62 ∧ -(2 ^ 62) ≤ j ∧ j < 2 ^ 62 then some (.ok (rngI i (j - i).toNat), μ) else none := rfl
@[simp] theorem enumO_l (l : List D) : enumO [.d (.lst l)] μ = some (.ok (enI 0 l), μ) := rfl
@[simp] theorem zipO_l (l m : List D) : zipO [.d (.lst l), .d (.lst m)] μ = some (.ok (zipI l m), μ) := rfl
@[simp] theorem seqO_l (l : List D) : seqO (.d (.lst l)) μ = some (.ok (l.map Sv.d), μ) := rfl
@[simp] theorem seqO_t (l : List D) : seqO (.d (.tup l)) μ = some (.ok (l.map Sv.d), μ) := rfl
@[simp] theorem seqO_s (l : List Nat) : seqO (.d (.str l)) μ = some (.ok (l.map fun c => .d (.str [c])), μ) := rfl
end
theorem enI_at : ∀ {l : List D} {k i : Nat} {x : Sv}, (enI k l)[i]? = some x → ∃ y, l[i]? = some y ∧ x = .d (.tup [.int ((k + i : Nat) : Int), y])
  | [], k, i, x, h => by simp [enI] at h
  | y :: r, k, 0, x, h => by simp [enI] at h; exact ⟨y, rfl, by simp [← h]⟩
  | y :: r, k, i + 1, x, h => by
    simp [enI] at h
    obtain ⟨z, a, b⟩ := enI_at h
    exact ⟨z, by simpa using a, by rw [b]; congr 4; omega⟩
@[simp] theorem enI_length (l : List D) (k : Nat) : (enI k l).length = l.length := by
  induction l generalizing k with
  | nil => rfl
  | cons x r ih => simp [enI, ih]
theorem atI_lst {α : Type} {l : List α} {i : Int} (h0 : 0 ≤ i) (h1 : i < l.length) : ∃ x, L2.atI l i = some x ∧ x ∈ l := let ⟨x, a, _, b⟩ := atI_of h0 h1; ⟨x, a, b⟩
theorem rngI_at {lo : Int} {n i : Nat} {x : Sv} (h : (rngI lo n)[i]? = some x) : i < n ∧ x = .d (.int (lo + (i : Int))) := by
  have hi : i < n := by
    have := (List.getElem?_eq_some_iff.1 h).1
    simpa [rngI] using this
  refine ⟨hi, ?_⟩
  simp [rngI, hi] at h
  exact h.symm
@[simp] theorem rngI_len (lo : Int) (n : Nat) : (rngI lo n).length = n := by simp [rngI]
theorem join_chars (l : List Nat) : joinL [] (l.map fun c => [c]) = l := by
  rw [joinL_nil]; induction l with
  | nil => rfl
  | cons a r ih => simpa using ih
theorem mJoin_c (l : List Nat) (h : l.length ≤ 16777216) (μ : Mu) : mJoin (.d (.str [])) [.d (.lst (l.map fun c => D.str [c]))] μ = okz (.str l) μ := by
  have e : (l.map fun c => D.str [c]) = (l.map fun c => [c]).map D.str := by simp
  have e2 : ((l.map fun c => [c]).map List.length).sum = l.length := by
    clear h e
    induction l with
    | nil => rfl
    | cons a r ih => simp at ih ⊢; omega
  rw [e, mJoin_s, join_chars, e2]; simp [h]
theorem Es_putK {R : Fl → Dl → Mu → Prop} {δ : Dl} {μ : Mu} {n : Nat} {kvs : List (Key × Sv)} {b v : Sv} {k : Key} (h : μ[n]? = some (.dct kvs)) (hk : keyOf b = some k) (hl : kvs.length < 16777216) : Es (setAt (.c n) b v δ μ) R = R .nx δ (μ.set n (.dct (putS kvs k v))) := by
  have : setAt (.c n) b v δ μ = some (.nx, δ, μ.set n (.dct (putS kvs k v))) := by simp [setAt, h, hk, hl]
  rw [this, Es_some]
theorem set_at {α : Type} {μ : List α} {n : Nat} {c c' : α} (h : μ[n]? = some c) : (μ.set n c')[n]? = some c' := by
  obtain ⟨h1, _⟩ := List.getElem?_eq_some_iff.1 h
  simp [h1]
end Z
namespace Z
open PySem PySem.Spec PyProof.Rows L2
/-! ## the weakest conditions of what FwT and FwU add -/
theorem Es_forLC {n : Nat} {all : List Sv} {g : Tz} {S : Sz} {R : Fl → Dl → Mu → Prop} (I : Nat → Dl → Mu → Prop) (hk : ∀ i δ μ, I i δ μ → μ[n]? = some (.lst all)) : ∀ (xs : List Sv) (j : Nat) (δ : Dl) (μ : Mu), I j δ μ →
    (∀ (i : Nat) (x : Sv) (δ : Dl) (μ : Mu), xs[i]? = some x → I (j + i) δ μ → someD (g x δ) fun δ1 => Es (S δ1 μ) fun f δ2 μ2 => match f with
      | .nx => I (j + i + 1) δ2 μ2
      | .ct => I (j + i + 1) δ2 μ2
      | .bk => R .nx δ2 μ2
      | f => R f δ2 μ2) →
    (∀ δ μ, I (j + xs.length) δ μ → R .nx δ μ) → Es (forLC n all g S xs δ μ) R
  | [], j, δ, μ, h0, _, he => by
    unfold forLC
    rw [if_pos (hk _ _ _ h0), Es_some]; exact he δ μ h0
  | x :: xs, j, δ, μ, h0, hs, he => by
    have h := hs 0 x δ μ rfl h0
    unfold forLC
    rw [if_pos (hk _ _ _ h0)]
    cases hg : g x δ with
    | none => rw [hg] at h; exact h.elim
    | some δ1 =>
      rw [hg] at h
      simp only [someD_s] at h
      obtain ⟨f, δ2, μ2, e, p⟩ := h
      simp only [e]
      have st : ∀ (i : Nat) (y : Sv) (δ : Dl) (μ : Mu), xs[i]? = some y → I (j + 1 + i) δ μ → someD (g y δ) fun δ1 => Es (S δ1 μ) fun f δ2 μ2 => match f with
          | .nx => I (j + 1 + i + 1) δ2 μ2
          | .ct => I (j + 1 + i + 1) δ2 μ2
          | .bk => R .nx δ2 μ2
          | f => R f δ2 μ2 := by
        intro i y δ μ e1 h1
        have e3 : j + 1 + i = j + (i + 1) := by omega
        rw [e3] at h1 ⊢
        exact hs (i + 1) y δ μ e1 h1
      have en : ∀ δ μ, I (j + 1 + xs.length) δ μ → R .nx δ μ := fun δ μ h => he δ μ (by
        have e3 : j + (x :: xs).length = j + 1 + xs.length := by simp only [List.length_cons]; omega
        rw [e3]; exact h)
      cases f with
      | nx => exact Es_forLC I hk xs (j + 1) δ2 μ2 p st en
      | ct => exact Es_forLC I hk xs (j + 1) δ2 μ2 p st en
      | bk => rw [Es_some]; exact p
      | rt v => rw [Es_some]; exact p
      | ex v => rw [Es_some]; exact p
theorem Es_forC {fa : Fz Sv} {g : Tz} {S : Sz} {δ : Dl} {μ μ1 : Mu} {n : Nat} {xs : List Sv} {R : Fl → Dl → Mu → Prop} (ha : fa δ μ = some (.ok (.c n), μ1)) (hx : μ1[n]? = some (.lst xs)) (h : Es (forLC n xs g S xs δ μ1) R) : Es (sForC fa g S δ μ) R := by
  have : sForC fa g S δ μ = forLC n xs g S xs δ μ1 := by
    show eS (fa δ μ) δ _ = _
    rw [ha]; simp [hx]
  rw [this]; exact h
/- a comprehension over a cell that is a tree at its end; its items see no state of their own -/
theorem Ev_lcKF {P : Except Exn Sv → Mu → Prop} {δ : Dl} {μ : Mu} {fa : Fz Sv} {vs : List Nat} {g : Tz} {c : Fz Bool} {e : Fz Sv} {m : Nat} (items : List Sv) (hi : fa δ μ = some (.ok (.c m), μ)) (hx : μ[m]? = some (.lst items)) (hn : items.length ≤ 16777216) (f : Sv → D)
    (hs : ∀ (x : Sv) (acc : List D), x ∈ items → ∃ δ1, g x (wipeZ δ vs) = some δ1 ∧ c δ1 (μ ++ [.lst (acc.map Sv.d)]) = some (.ok true, μ ++ [.lst (acc.map Sv.d)]) ∧ e δ1 (μ ++ [.lst (acc.map Sv.d)]) = some (.ok (.d (f x)), μ ++ [.lst (acc.map Sv.d)]))
    (he : P (.ok (.d (.lst (items.map f)))) μ) : Ev (fFrz (fLcK fa vs g c e) δ μ) P := by
  have hm := (List.getElem?_eq_some_iff.1 hx).1
  have gd : ∀ acc : List D, (μ ++ [Cell.lst (acc.map Sv.d)])[m]? = some (.lst items) := fun acc => by rw [List.getElem?_append_left hm]; exact hx
  have go : ∀ (xs : List Sv) (acc : List D), (∀ x ∈ xs, x ∈ items) → acc.length + xs.length ≤ items.length → lcLC m items g c e μ.length (wipeZ δ vs) xs (μ ++ [.lst (acc.map Sv.d)]) = some (μ ++ [.lst ((acc ++ xs.map f).map Sv.d)]) := by
    intro xs
    induction xs with
    | nil => intro acc _ _; unfold lcLC; rw [if_pos (gd acc)]; simp
    | cons x xs ih =>
      intro acc hsub hl
      simp only [List.length_cons] at hl
      obtain ⟨δ1, e1, e2, e3⟩ := hs x acc (hsub x (by simp))
      have q1 : (μ ++ [Cell.lst (acc.map Sv.d)])[μ.length]? = some (.lst (acc.map Sv.d)) := by simp
      have q2 : (μ ++ [Cell.lst (acc.map Sv.d)]).set μ.length (.lst (acc.map Sv.d ++ [.d (f x)])) = μ ++ [.lst ((acc ++ [f x]).map Sv.d)] := by simp
      unfold lcLC
      rw [if_pos (gd acc)]
      simp only [e1, e2, e3, q1]
      rw [if_pos (by simp; omega), q2, ih (acc ++ [f x]) (fun y hy => hsub y (by simp [hy])) (by simp; omega)]
      simp
  have g0 := go items [] (fun x h => h) (by simp)
  have e2 : fLcK fa vs g c e δ μ = some (.ok (.c μ.length), μ ++ [.lst ((items.map f).map Sv.d)]) := by
    show Rz.bind (fa δ μ) _ = _
    rw [hi]; simp only [Rz.bind_ok, hx]
    have : (μ ++ [Cell.lst []]) = μ ++ [.lst (([] : List D).map Sv.d)] := rfl
    rw [this, g0]; rfl
  refine ⟨.ok (.d (.lst (items.map f))), μ, ?_, he⟩
  show Rz.bind _ _ = _
  rw [e2]; simp only [Rz.bind_ok]
  have q1 : (μ ++ [Cell.lst ((items.map f).map Sv.d)])[μ.length]? = some (.lst ((items.map f).map Sv.d)) := by simp
  have q2 : (μ ++ [Cell.lst ((items.map f).map Sv.d)]).set μ.length .fz = μ ++ [.fz] := by simp
  simp only [frzV, q1, toDs_map, q2]
  rw [gc_app]
theorem Es_fzd {i : Nat} {S : Sz} {δ : Dl} {μ μ' : Mu} {v : Sv} {d : D} {R : Fl → Dl → Mu → Prop} (hv : δ[i]? = some (some v)) (hd : dpz 8 μ v = some (d, μ')) (h : Es (S (δ.set i (some (.d d))) μ') R) : Es (sFzD i S δ μ) R := by
  have : sFzD i S δ μ = S (δ.set i (some (.d d))) μ' := by simp [sFzD, hv, hd]
  rw [this]; exact h
section
variable {P : Except Exn Sv → Mu → Prop} {R : Fl → Dl → Mu → Prop} {δ : Dl} {μ : Mu}
@[simp] theorem gL_eq (h : List Sv → Dl → Option Dl) (l : List D) : gL h (.d (.lst l)) δ = h (l.map Sv.d) δ := rfl
@[simp] theorem Ev_setd (fo fk fv : Fz Sv) : Ev (fSetd fo fk fv δ μ) P = Ev (fo δ μ) (fun e μ => okc e (fun o => isDct o μ = true ∧ Ev (fk δ μ) (fun e μ => okc e (fun k => Ev (fv δ μ) (fun e μ => okc e (fun v => Ev (setdO o k v μ) P) (fun x => P (.error x) μ))) (fun x => P (.error x) μ))) (fun x => P (.error x) μ)) := by
  show Ev (Rz.bind _ _) _ = _
  rw [Ev_bind]; refine Ev_ext fun e μ => ?_; cases e
  · rfl
  · rename_i a; simp only [okc_ok]; by_cases h : isDct a μ = true <;> simp [h, Ev_bind] <;> exact Iff.of_eq (Ev_ext fun e μ => by cases e <;> simp [Ev_bind])
@[simp] theorem Ev_get2 (fo fk fv : Fz Sv) : Ev (fGet2 fo fk fv δ μ) P = Ev (fo δ μ) (fun e μ => okc e (fun o => isDct o μ = true ∧ Ev (fk δ μ) (fun e μ => okc e (fun k => Ev (fv δ μ) (fun e μ => okc e (fun v => Ev (getdO o k v μ) P) (fun x => P (.error x) μ))) (fun x => P (.error x) μ))) (fun x => P (.error x) μ)) := by
  show Ev (Rz.bind _ _) _ = _
  rw [Ev_bind]; refine Ev_ext fun e μ => ?_; cases e
  · rfl
  · rename_i a; simp only [okc_ok]; by_cases h : isDct a μ = true <;> simp [h, Ev_bind] <;> exact Iff.of_eq (Ev_ext fun e μ => by cases e <;> simp [Ev_bind])
theorem isDct_c {n : Nat} {kvs : List (Key × Sv)} (h : μ[n]? = some (.dct kvs)) : isDct (.c n) μ = true := by simp [isDct, h]
theorem Ev_setdO {n : Nat} {kvs : List (Key × Sv)} {k : Sv} {v : Sv} {key : Key} (h : μ[n]? = some (.dct kvs)) (hk : keyOf k = some key) (hl : kvs.length < 16777216) : Ev (setdO (.c n) k v μ) P = match lookK kvs key with
    | some x => P (.ok x) μ
    | none => P (.ok v) (μ.set n (.dct (putS kvs key v))) := by
  cases hx : lookK kvs key with
  | none =>
    have : setdO (.c n) k v μ = some (.ok v, μ.set n (.dct (putS kvs key v))) := by simp [setdO, h, hk, hl, hx]
    rw [this, Ev_some]
  | some x =>
    have : setdO (.c n) k v μ = some (.ok x, μ) := by simp [setdO, h, hk, hl, hx]
    rw [this, Ev_some]
theorem Ev_getdO {n : Nat} {kvs : List (Key × Sv)} {k : Sv} {v : Sv} {key : Key} (h : μ[n]? = some (.dct kvs)) (hk : keyOf k = some key) : Ev (getdO (.c n) k v μ) P = P (.ok ((lookK kvs key).getD v)) μ := by
  have : getdO (.c n) k v μ = some (.ok ((lookK kvs key).getD v), μ) := by simp [getdO, h, hk]
  rw [this, Ev_some]
theorem toBs_map : ∀ l : List Bool, toBs (l.map fun b => Sv.d (.bl b)) = some l
  | [] => rfl
  | x :: r => by simp [toBs, toBs_map r]
theorem toIs_map : ∀ l : List Int, toIs (l.map fun b => Sv.d (.int b)) = some l
  | [] => rfl
  | x :: r => by simp [toIs, toIs_map r]
@[simp] theorem bAll_l (l : List Bool) : bAll [.d (.lst (l.map D.bl))] μ = okz (.bl (l.all id)) μ := by
  show (match ((some ((l.map D.bl).map Sv.d)).bind toBs) with | some bs => okz (.bl (bs.all id)) μ | none => none) = _
  have : ((some ((l.map D.bl).map Sv.d)).bind toBs) = some l := by
    rw [Option.bind_some, List.map_map]; exact toBs_map l
  rw [this]
@[simp] theorem bSum_l (l : List Int) : bSum [.d (.lst (l.map D.int))] μ = okz (.int l.sum) μ := by
  show (match ((some ((l.map D.int).map Sv.d)).bind toIs) with | some bs => okz (.int bs.sum) μ | none => none) = _
  have : ((some ((l.map D.int).map Sv.d)).bind toIs) = some l := by
    rw [Option.bind_some, List.map_map]; exact toIs_map l
  rw [this]
@[simp] theorem bMin3_i (i j k : Int) : bMin3 [.d (.int i), .d (.int j), .d (.int k)] μ = okz (.int (min (min i j) k)) μ := by
  show okz (.int (if k < (if j < i then j else i) then k else (if j < i then j else i))) μ = _
  congr 2
  split <;> split at * <;> omega
@[simp] theorem Ev_LstC (fr : Fz (List Sv)) : Ev (fLstC fr δ μ) P = Ev (fr δ μ) (fun e μ => okc e (fun as => as.length ≤ 16777216 ∧ P (.ok (.c μ.length)) (μ ++ [.lst as])) (fun x => P (.error x) μ)) := by
  show Ev (Rz.bind _ _) _ = _
  rw [Ev_bind]; refine Ev_ext fun e μ => ?_; cases e
  · rfl
  · rename_i a; simp only [okc_ok]; by_cases h : a.length ≤ 16777216 <;> simp [h]
@[simp] theorem fDct_eq : fDct δ μ = some (.ok (.c μ.length), μ ++ [.dct []]) := rfl
def lrgO (a : Sv) (μ : Mu) : Rz Sv := match a with
  | .d (.int n) => if -(2 ^ 62) ≤ n ∧ n ≤ 16777216 then okz (.lst (rngD 0 n.toNat)) μ else none
  | _ => none
@[simp] theorem Ev_LRg (fa : Fz Sv) : Ev (fLRg fa δ μ) P = Ev (fa δ μ) (fun e μ => okc e (fun a => Ev (lrgO a μ) P) (fun x => P (.error x) μ)) := by
  show Ev (Rz.bind _ (fun a μ => lrgO a μ)) _ = _
  rw [Ev_bind]
@[simp] theorem lrgO_i (n : Int) : lrgO (.d (.int n)) μ = if -(2 ^ 62) ≤ n ∧ n ≤ 16777216 then okz (.lst (rngD 0 n.toNat)) μ else none := rfl
theorem Ev_app {n : Nat} {xs : List Sv} {y : Sv} (h : μ[n]? = some (.lst xs)) (hl : xs.length < 16777216) : Ev (mApp (.c n) [y] μ) P = P (.ok (.d .non)) (μ.set n (.lst (xs ++ [y]))) := by
  have : mApp (.c n) [y] μ = some (.ok (.d .non), μ.set n (.lst (xs ++ [y]))) := by simp [mApp, h, hl]
  rw [this, Ev_some]
theorem Ev_popI {n : Nat} {xs : List Sv} {i : Int} {k : Nat} {y : Sv} (h : μ[n]? = some (.lst xs)) (hk : L2.ixN xs.length i = some k) (hy : xs[k]? = some y) (hl : xs.length ≤ 16777216) : Ev (mPopI (.c n) [.d (.int i)] μ) P = P (.ok y) (μ.set n (.lst (xs.eraseIdx k))) := by
  have : mPopI (.c n) [.d (.int i)] μ = some (.ok y, μ.set n (.lst (xs.eraseIdx k))) := by simp [mPopI, h, hk, hy, hl]
  rw [this, Ev_some]
theorem tyS_lst {n : Nat} {xs : List Sv} (h : μ[n]? = some (.lst xs)) : tyS "list" μ (.c n) = true := by simp [tyS, h]
theorem dV_c {n : Nat} {xs : List D} (h : μ[n]? = some (.lst (xs.map Sv.d))) : dV μ (.c n) = some (.lst xs) := by simp [dV, h, toDs_map]
theorem Ev_eqc {a b : Sv} {x y : D} (ha : dV μ a = some x) (hb : dV μ b = some y) : Ev (oEq a b μ) P = eqc (eqD x y) fun r => P (.ok (.d (.bl r))) μ := by
  cases h : eqD x y with
  | none =>
    have : oEq a b μ = none := by simp [oEq, ha, hb, h]
    rw [this]; simp [eqc]
  | some r =>
    have : oEq a b μ = okz (.bl r) μ := by simp [oEq, ha, hb, h]
    rw [this]; simp
theorem Ev_nec {a b : Sv} {x y : D} (ha : dV μ a = some x) (hb : dV μ b = some y) : Ev (oNe a b μ) P = eqc (eqD x y) fun r => P (.ok (.d (.bl (!r)))) μ := by
  cases h : eqD x y with
  | none =>
    have : oNe a b μ = none := by simp [oNe, ha, hb, h]
    rw [this]; simp [eqc]
  | some r =>
    have : oNe a b μ = okz (.bl (!r)) μ := by simp [oNe, ha, hb, h]
    rw [this]; simp
theorem tgOf_c {n : Nat} {xs : List Sv} (h : μ[n]? = some (.lst xs)) : tgOf μ (.c n) = some (.b "list") := by simp [tgOf, h]
end
/- == of flat data -/
theorem eqD_refl_ok {a : D} {p : PyData} (h : a.py = some p) (hd : p.depth ≤ 60) (he : PyData.eqv p p = true) : eqD a a = some true := by
  simp [eqD, h, hd, he]

mutual
def D.ok : Nat → D → Bool
  | _, .non => true
  | _, .bl _ => true
  | _, .int _ => true
  | _, .str _ => true
  | 0, .lst _ => false
  | 0, .tup _ => false
  | n + 1, .lst l => D.okL n l
  | n + 1, .tup l => D.okL n l
  | _, .ins _ _ => false
  | _, .exc _ _ => false
def D.okL : Nat → List D → Bool
  | _, [] => true
  | n, x :: r => D.ok n x && D.okL n r
end
mutual
theorem ok_py : ∀ (n : Nat) (d : D), D.ok n d = true → ∃ p, d.py = some p ∧ p.depth ≤ n
  | n, .non, h => ⟨_, rfl, by simp [PyData.depth]⟩
  | n, .bl _, h => ⟨_, rfl, by simp [PyData.depth]⟩
  | n, .int _, h => ⟨_, rfl, by simp [PyData.depth]⟩
  | n, .str _, h => ⟨_, rfl, by simp [PyData.depth]⟩
  | 0, .lst _, h => by simp [D.ok] at h
  | 0, .tup _, h => by simp [D.ok] at h
  | n + 1, .lst l, h => by
    obtain ⟨ps, e, hd⟩ := okL_py n l (by simpa [D.ok] using h)
    exact ⟨.list ps, by simp only [D.py, e, Option.map_some], by simp [PyData.depth]; omega⟩
  | n + 1, .tup l, h => by
    obtain ⟨ps, e, hd⟩ := okL_py n l (by simpa [D.ok] using h)
    exact ⟨.tuple ps, by simp only [D.py, e, Option.map_some], by simp [PyData.depth]; omega⟩
  | n, .ins _ _, h => by cases n <;> simp [D.ok] at h
  | n, .exc _ _, h => by cases n <;> simp [D.ok] at h
theorem okL_py : ∀ (n : Nat) (l : List D), D.okL n l = true → ∃ ps, D.py.pys l = some ps ∧ PyData.depthAll ps ≤ n
  | n, [], h => ⟨[], by simp [D.py.pys], by simp [PyData.depthAll]⟩
  | n, x :: r, h => by
    simp only [D.okL, Bool.and_eq_true] at h
    obtain ⟨p, e, hd⟩ := ok_py n x h.1
    obtain ⟨ps, e2, hd2⟩ := okL_py n r h.2
    exact ⟨p :: ps, by simp only [D.py.pys, e, e2, Option.bind_some, Option.map_some], by simp only [PyData.depthAll]; omega⟩
end
theorem okL_of {n : Nat} : ∀ {l : List D}, (∀ x ∈ l, D.ok n x = true) → D.okL n l = true
  | [], _ => by simp [D.okL]
  | x :: r, h => by
    simp only [D.okL, Bool.and_eq_true]
    exact ⟨h x (by simp), okL_of fun y hy => h y (by simp [hy])⟩
theorem eqD_refl {d : D} (n : Nat) (h : D.ok n d = true) (hn : n ≤ 60 := by decide) : eqD d d = some true := by
  obtain ⟨p, e, hd⟩ := ok_py n d h
  have h1 : min p.depth p.depth ≤ 60 := by omega
  simp only [eqD, e, Option.bind_some, if_pos h1, PySem.SeqAt.eqv_refl_plain p (py_plain d p e)]
/- a comprehension that stays a cell -/
theorem lcC_run {δ : Dl} {μ : Mu} {fi : Fz (List Sv)} {vs : List Nat} {g : Tz} {c : Fz Bool} {e : Fz Sv} (items : List Sv) (hi : fi δ μ = some (.ok items, μ)) (hn : items.length ≤ 16777216) (I : Nat → List D → Mu → Prop) (h0 : I 0 [] μ)
    (hs : ∀ (i : Nat) (x : Sv) (acc : List D) (μ' : Mu), items[i]? = some x → acc.length ≤ i → μ'.length = μ.length → I i acc μ' → someD (g x (wipeZ δ vs)) fun δ1 => Ev (c δ1 (μ' ++ [.lst (acc.map Sv.d)])) fun r μ2 => ∃ b, r = .ok b ∧
      if b = true then Ev (e δ1 μ2) fun r μ3 => ∃ y μ'', r = .ok (.d y) ∧ μ3 = μ'' ++ [.lst (acc.map Sv.d)] ∧ μ''.length = μ.length ∧ I (i + 1) (acc ++ [y]) μ''
      else ∃ μ'', μ2 = μ'' ++ [.lst (acc.map Sv.d)] ∧ μ''.length = μ.length ∧ I (i + 1) acc μ'') :
    ∃ acc μ1, fLcC fi vs g c e δ μ = some (.ok (.c μ.length), μ1 ++ [.lst (acc.map Sv.d)]) ∧ acc.length ≤ items.length ∧ μ1.length = μ.length ∧ I items.length acc μ1 := by
  have go : ∀ (xs : List Sv) (j : Nat) (acc : List D) (μ' : Mu), (∀ i x, xs[i]? = some x → items[j + i]? = some x) → j + xs.length = items.length → acc.length ≤ j → μ'.length = μ.length → I j acc μ' → ∃ acc' μ'', lcL g c e μ.length (wipeZ δ vs) xs (μ' ++ [.lst (acc.map Sv.d)]) = some (μ'' ++ [.lst (acc'.map Sv.d)]) ∧ acc'.length ≤ items.length ∧ μ''.length = μ.length ∧ I items.length acc' μ'' := by
    intro xs
    induction xs with
    | nil =>
      intro j acc μ' hd hj hl hm h
      simp at hj; subst hj
      exact ⟨acc, μ', rfl, hl, hm, h⟩
    | cons x xs ih =>
      intro j acc μ' hd hj hl hm h
      simp only [List.length_cons] at hj
      have a := hs j x acc μ' (hd 0 x rfl) hl hm h
      cases hg : g x (wipeZ δ vs) with
      | none => rw [hg] at a; exact a.elim
      | some δ1 =>
        rw [hg] at a
        obtain ⟨r, μ2, e1, b, rfl, p⟩ := a
        have hd' : ∀ i y, xs[i]? = some y → items[j + 1 + i]? = some y := fun i y q => by
          have := hd (i + 1) y q
          rwa [show j + (i + 1) = j + 1 + i by omega] at this
        cases b with
        | true =>
          simp only [if_true] at p
          obtain ⟨r, μ3, e2, y, μ4, rfl, rfl, h4, i4⟩ := p
          obtain ⟨acc', μ5, e5, l5, m5, i5⟩ := ih (j + 1) (acc ++ [y]) μ4 hd' (by omega) (by simp; omega) h4 i4
          refine ⟨acc', μ5, ?_, l5, m5, i5⟩
          have q1 : (μ4 ++ [Cell.lst (acc.map Sv.d)])[μ.length]? = some (.lst (acc.map Sv.d)) := by
            rw [List.getElem?_append_right (by omega)]; simp [h4]
          have q2 : (μ4 ++ [Cell.lst (acc.map Sv.d)]).set μ.length (.lst (acc.map Sv.d ++ [.d y])) = μ4 ++ [.lst ((acc ++ [y]).map Sv.d)] := by
            rw [List.set_append_right _ _ (by omega)]; simp [h4]
          simp only [lcL, hg, e1, e2, q1]
          rw [if_pos (by simp; omega), q2, e5]
        | false =>
          simp only [Bool.false_eq_true, if_false] at p
          obtain ⟨μ4, rfl, h4, i4⟩ := p
          obtain ⟨acc', μ5, e5, l5, m5, i5⟩ := ih (j + 1) acc μ4 hd' (by omega) (by omega) h4 i4
          refine ⟨acc', μ5, ?_, l5, m5, i5⟩
          simp only [lcL, hg, e1, e5]
  obtain ⟨acc, μ1, e1, hl, hm, h1⟩ := go items 0 [] μ (fun i x h => by simpa using h) (by simp) (by simp) rfl h0
  refine ⟨acc, μ1, ?_, hl, hm, h1⟩
  show Rz.bind (fi δ μ) _ = _
  rw [hi]; simp only [Rz.bind_ok]
  have : (μ ++ [Cell.lst []]) = μ ++ [.lst (([] : List D).map Sv.d)] := rfl
  rw [this, e1]
/- the plain comprehension: no state is touched, a filter and a map -/
theorem lcL_pure {δ : Dl} {μ : Mu} {g : Tz} {c : Fz Bool} {e : Fz Sv} (p : Sv → Bool) (f : Sv → D) : ∀ (xs : List Sv) (acc : List D), acc.length + xs.length ≤ 16777216 →
    (∀ (x : Sv) (acc : List D), x ∈ xs → ∃ δ1, g x δ = some δ1 ∧ c δ1 (μ ++ [.lst (acc.map Sv.d)]) = some (.ok (p x), μ ++ [.lst (acc.map Sv.d)]) ∧ (p x = true → e δ1 (μ ++ [.lst (acc.map Sv.d)]) = some (.ok (.d (f x)), μ ++ [.lst (acc.map Sv.d)]))) →
    lcL g c e μ.length δ xs (μ ++ [.lst (acc.map Sv.d)]) = some (μ ++ [.lst ((acc ++ (xs.filter p).map f).map Sv.d)])
  | [], acc, _, _ => by simp [lcL]
  | x :: xs, acc, hl, hs => by
    simp only [List.length_cons] at hl
    obtain ⟨δ1, e1, e2, e3⟩ := hs x acc (by simp)
    cases hp : p x with
    | false =>
      rw [hp] at e2
      simp only [lcL, e1, e2]
      rw [lcL_pure p f xs acc (by omega) fun y a hy => hs y a (by simp [hy])]
      simp [hp]
    | true =>
      rw [hp] at e2
      have q1 : (μ ++ [Cell.lst (acc.map Sv.d)])[μ.length]? = some (.lst (acc.map Sv.d)) := by simp
      have q2 : (μ ++ [Cell.lst (acc.map Sv.d)]).set μ.length (.lst (acc.map Sv.d ++ [.d (f x)])) = μ ++ [.lst ((acc ++ [f x]).map Sv.d)] := by simp
      simp only [lcL, e1, e2, e3 hp, q1]
      rw [if_pos (by simp; omega), q2, lcL_pure p f xs (acc ++ [f x]) (by simp; omega) fun y a hy => hs y a (by simp [hy])]
      simp [hp]
theorem lcC_pure {δ : Dl} {μ : Mu} {fi : Fz (List Sv)} {vs : List Nat} {g : Tz} {c : Fz Bool} {e : Fz Sv} (items : List Sv) (hi : fi δ μ = some (.ok items, μ)) (hn : items.length ≤ 16777216) (p : Sv → Bool) (f : Sv → D)
    (hs : ∀ (x : Sv) (acc : List D), x ∈ items → ∃ δ1, g x (wipeZ δ vs) = some δ1 ∧ c δ1 (μ ++ [.lst (acc.map Sv.d)]) = some (.ok (p x), μ ++ [.lst (acc.map Sv.d)]) ∧ (p x = true → e δ1 (μ ++ [.lst (acc.map Sv.d)]) = some (.ok (.d (f x)), μ ++ [.lst (acc.map Sv.d)]))) :
    fLcC fi vs g c e δ μ = some (.ok (.c μ.length), μ ++ [.lst (((items.filter p).map f).map Sv.d)]) := by
  show Rz.bind (fi δ μ) _ = _
  rw [hi]; simp only [Rz.bind_ok]
  have : (μ ++ [Cell.lst []]) = μ ++ [.lst (([] : List D).map Sv.d)] := rfl
  rw [this, lcL_pure p f items [] (by simpa using hn) hs]
  simp
theorem lcF_pure {δ : Dl} {μ : Mu} {fi : Fz (List Sv)} {vs : List Nat} {g : Tz} {c : Fz Bool} {e : Fz Sv} (items : List Sv) (hi : fi δ μ = some (.ok items, μ)) (hn : items.length ≤ 16777216) (p : Sv → Bool) (f : Sv → D)
    (hs : ∀ (x : Sv) (acc : List D), x ∈ items → ∃ δ1, g x (wipeZ δ vs) = some δ1 ∧ c δ1 (μ ++ [.lst (acc.map Sv.d)]) = some (.ok (p x), μ ++ [.lst (acc.map Sv.d)]) ∧ (p x = true → e δ1 (μ ++ [.lst (acc.map Sv.d)]) = some (.ok (.d (f x)), μ ++ [.lst (acc.map Sv.d)]))) :
    fFrz (fLcC fi vs g c e) δ μ = some (.ok (.d (.lst ((items.filter p).map f))), μ) := by
  show Rz.bind _ _ = _
  rw [lcC_pure items hi hn p f hs]; simp only [Rz.bind_ok]
  have q1 : (μ ++ [Cell.lst (((items.filter p).map f).map Sv.d)])[μ.length]? = some (.lst (((items.filter p).map f).map Sv.d)) := by simp
  have q2 : (μ ++ [Cell.lst (((items.filter p).map f).map Sv.d)]).set μ.length .fz = μ ++ [.fz] := by simp
  simp only [frzV, q1, toDs_map, q2]
  rw [gc_app]
theorem Ev_of {α : Type} {r : Rz α} {a : Except Exn α} {μ : Mu} {P : Except Exn α → Mu → Prop} (h : r = some (a, μ)) (p : P a μ) : Ev r P := ⟨_, _, h, p⟩
theorem of_Ev {α : Type} {r : Rz α} {a : Except Exn α} {μ : Mu} (h : Ev r fun e μ' => e = a ∧ μ' = μ) : r = some (a, μ) := by
  obtain ⟨_, _, e, rfl, rfl⟩ := h
  exact e
end Z
namespace Z
open PySem PySem.Spec PyProof.Rows L2
theorem lcC_from {δ : Dl} {μ μ1 : Mu} {fi : Fz (List Sv)} {vs : List Nat} {g : Tz} {c : Fz Bool} {e : Fz Sv} {items : List Sv} (hi : fi δ μ = some (.ok items, μ1)) : fLcC fi vs g c e δ μ = fLcC (fun _ m => some (.ok items, m)) vs g c e δ μ1 := by
  show Rz.bind (fi δ μ) _ = Rz.bind (some (.ok items, μ1)) _
  rw [hi]
/-- a comprehension that is a tree, what it goes over drawn first -/
theorem Ev_lcF2 {P : Except Exn Sv → Mu → Prop} {δ : Dl} {μ μ1 : Mu} {fi : Fz (List Sv)} {vs : List Nat} {g : Tz} {c : Fz Bool} {e : Fz Sv} {items : List Sv} (hi : fi δ μ = some (.ok items, μ1)) (hL : μ1.length = μ.length) (hn : items.length ≤ 16777216) (I : Nat → List D → Mu → Prop) (h0 : I 0 [] μ1)
    (hs : ∀ (i : Nat) (x : Sv) (acc : List D) (μ' : Mu), items[i]? = some x → acc.length ≤ i → μ'.length = μ.length → I i acc μ' → someD (g x (wipeZ δ vs)) fun δ1 => Ev (c δ1 (μ' ++ [.lst (acc.map Sv.d)])) fun r μ2 => ∃ b, r = .ok b ∧
      if b = true then Ev (e δ1 μ2) fun r μ3 => ∃ y μ'', r = .ok (.d y) ∧ μ3 = μ'' ++ [.lst (acc.map Sv.d)] ∧ μ''.length = μ.length ∧ I (i + 1) (acc ++ [y]) μ''
      else ∃ μ'', μ2 = μ'' ++ [.lst (acc.map Sv.d)] ∧ μ''.length = μ.length ∧ I (i + 1) acc μ'')
    (he : ∀ acc μ', acc.length ≤ items.length → μ'.length = μ.length → I items.length acc μ' → Lk μ μ' ∧ P (.ok (.d (.lst acc))) μ') : Ev (fFrz (fLcC fi vs g c e) δ μ) P := by
  rw [← hL] at hs
  obtain ⟨acc, μ2, e2, hl, hm, h1⟩ := lcC_run (fi := fun _ m => some (.ok items, m)) (μ := μ1) items rfl hn I h0 hs
  rw [← lcC_from hi] at e2
  obtain ⟨hk, hp⟩ := he acc μ2 hl (by omega) h1
  refine ⟨.ok (.d (.lst acc)), μ2, ?_, hp⟩
  show Rz.bind _ _ = _
  rw [e2]; simp only [Rz.bind_ok]
  have q1 : (μ2 ++ [Cell.lst (acc.map Sv.d)])[μ1.length]? = some (.lst (acc.map Sv.d)) := by
    rw [List.getElem?_append_right (by omega)]; simp [hm]
  have q2 : (μ2 ++ [Cell.lst (acc.map Sv.d)]).set μ1.length .fz = μ2 ++ [.fz] := by
    rw [List.set_append_right _ _ (by omega)]; simp [hm]
  simp only [frzV, q1, toDs_map, q2, gc_lk hk (show μ2.length = μ.length by omega)]
/-- what lies behind the cells of before -/
def Kp (μ0 μ : Mu) : Prop := ∃ t, μ = μ0 ++ t
theorem Kp.refl (μ : Mu) : Kp μ μ := ⟨[], by simp⟩
theorem Kp.app {μ0 μ : Mu} (h : Kp μ0 μ) (t : Mu) : Kp μ0 (μ ++ t) := let ⟨u, e⟩ := h; ⟨u ++ t, by simp [e]⟩
theorem Kp.set {μ0 μ : Mu} (h : Kp μ0 μ) {n : Nat} (hn : μ0.length ≤ n) (c : Cell) : Kp μ0 (μ.set n c) := by
  obtain ⟨u, rfl⟩ := h
  exact ⟨u.set (n - μ0.length) c, List.set_append_right _ _ hn⟩
theorem Kp.gc {μ0 μ : Mu} (h : Kp μ0 μ) : gcM μ0 μ = μ0 := by
  obtain ⟨u, rfl⟩ := h
  exact gc_app ..
theorem Kp.trans {a b c : Mu} (h : Kp a b) (k : Kp b c) : Kp a c := by
  obtain ⟨t, rfl⟩ := h
  obtain ⟨u, rfl⟩ := k
  exact ⟨t ++ u, by simp⟩
theorem Kp.le {a b : Mu} (h : Kp a b) : a.length ≤ b.length := by
  obtain ⟨t, rfl⟩ := h
  simp
/- dicts by their keys -/
def strK (s : List Nat) : Key := .inr ⟨s.toArray⟩
theorem strK_inj {s t : List Nat} (h : strK s = strK t) : s = t := by
  unfold strK at h
  have := Sum.inr.inj h
  have := congrArg (fun z : Str => z.cps.toList) this
  simpa using this
theorem lookK_nil (k : Key) : lookK [] k = none := rfl
theorem lookK_cons (k' k : Key) (v : Sv) (r : List (Key × Sv)) : lookK ((k', v) :: r) k = if k' = k then some v else lookK r k := by
  unfold lookK
  rw [List.find?_cons]
  by_cases h : k' = k <;> simp [h]
theorem lookK_mapne {k k' : Key} {v : Sv} (h : k ≠ k') : ∀ kvs : List (Key × Sv), lookK (kvs.map fun kv => if kv.1 = k then (kv.1, v) else kv) k' = lookK kvs k'
  | [] => rfl
  | (k1, v1) :: r => by
    by_cases h1 : k1 = k
    · subst h1
      simp only [List.map_cons, if_true]
      rw [lookK_cons, lookK_cons, if_neg h, if_neg h, lookK_mapne h r]
    · simp only [List.map_cons, if_neg h1]
      rw [lookK_cons, lookK_cons, lookK_mapne h r]
theorem lookK_mapself {k : Key} {v : Sv} : ∀ kvs : List (Key × Sv), (kvs.any fun kv => decide (kv.1 = k)) = true → lookK (kvs.map fun kv => if kv.1 = k then (kv.1, v) else kv) k = some v
  | [], h => by simp at h
  | (k1, v1) :: r, h => by
    by_cases h1 : k1 = k
    · subst h1
      simp only [List.map_cons, if_true]
      rw [lookK_cons, if_pos rfl]
    · simp only [List.map_cons, if_neg h1]
      rw [lookK_cons, if_neg h1]
      exact lookK_mapself r (by simpa [h1] using h)
theorem lookK_app (k k' : Key) (v : Sv) : ∀ kvs : List (Key × Sv), lookK (kvs ++ [(k, v)]) k' = (lookK kvs k').or (if k = k' then some v else none)
  | [] => by rw [List.nil_append, lookK_cons, lookK_nil]; simp [lookK_nil]
  | (k1, v1) :: r => by
    rw [List.cons_append, lookK_cons, lookK_cons, lookK_app k k' v r]
    by_cases h : k1 = k' <;> simp [h]
theorem lookK_any (k : Key) : ∀ kvs : List (Key × Sv), (kvs.any fun kv => decide (kv.1 = k)) = (lookK kvs k).isSome
  | [] => rfl
  | (k1, v1) :: r => by
    rw [lookK_cons, List.any_cons, lookK_any k r]
    by_cases h : k1 = k <;> simp [h]
theorem lookK_put (kvs : List (Key × Sv)) (k : Key) (v : Sv) (k' : Key) : lookK (putS kvs k v) k' = if k = k' then some v else lookK kvs k' := by
  unfold putS
  split
  · rename_i h
    by_cases e : k = k'
    · subst e; rw [if_pos rfl]; exact lookK_mapself kvs h
    · rw [if_neg e]; exact lookK_mapne e kvs
  · rename_i h
    rw [lookK_app]
    rw [lookK_any] at h
    by_cases e : k = k'
    · subst e
      cases hx : lookK kvs k with
      | none => simp
      | some y => rw [hx] at h; simp at h
    · simp [e]
theorem putS_len (kvs : List (Key × Sv)) (k : Key) (v : Sv) : (putS kvs k v).length ≤ kvs.length + 1 := by
  unfold putS; split <;> simp
theorem pys_ints : ∀ l : List Int, D.py.pys (l.map D.int) = some (l.map PyData.int)
  | [] => by simp [D.py.pys]
  | x :: r => by simp [D.py.pys, pys_ints r, D.py]
theorem eqD_ints_nil (l : List Int) : eqD (.lst (l.map D.int)) (.lst []) = some (decide (l = [])) := by
  simp only [eqD, D.py, pys_ints, Option.map_some, Option.bind_some, D.py.pys]
  have : (PyData.list ([] : List PyData)).depth = 1 := rfl
  rw [if_pos (by rw [this]; omega)]
  cases l <;> rfl
end Z
namespace Z
open PySem PySem.Spec PyProof.Rows L2
theorem Ev_frzC {P : Except Exn Sv → Mu → Prop} {δ : Dl} {μ : Mu} {fa : Fz Sv} {n : Nat} {l : List D} (ha : fa δ μ = some (.ok (.c n), μ)) (hn : μ[n]? = some (.lst (l.map Sv.d))) (p : P (.ok (.d (.lst l))) (μ.set n .fz)) : Ev (fFrz fa δ μ) P := by
  refine ⟨_, _, ?_, p⟩
  show Rz.bind _ _ = _
  rw [ha]; simp only [Rz.bind_ok, frzV, hn, toDs_map]
  rw [gc_len (by simp)]
end Z
namespace Z
open PySem PySem.Spec PyProof.Rows L2
theorem dpzL_map (k : Nat) (μ : Mu) (l : List D) : dpzL k μ (l.map Sv.d) = some (l, μ) := by
  induction l with
  | nil => simp [dpzL]
  | cons x r ih => simp [dpzL, dpz, ih]
theorem dpz_lst {k : Nat} {μ μ' : Mu} {n : Nat} {xs : List Sv} {ds : List D} (h : μ[n]? = some (.lst xs)) (e : dpzL k (μ.set n .fz) xs = some (ds, μ')) : dpz (k + 1) μ (.c n) = some (.lst ds, μ') := by
  simp [dpz, h, e]
theorem dpzL_cons {k : Nat} {μ μ1 μ2 : Mu} {x : Sv} {r : List Sv} {d : D} {ds : List D} (h : dpz k μ x = some (d, μ1)) (e : dpzL k μ1 r = some (ds, μ2)) : dpzL k μ (x :: r) = some (d :: ds, μ2) := by
  simp [dpzL, h, e]
theorem dpzL_nil (k : Nat) (μ : Mu) : dpzL k μ [] = some ([], μ) := by simp [dpzL]
end Z
namespace Z
open PySem PySem.Spec PyProof.Rows L2
/-! ### walks over what stands while it is walked: a check before each turn -/
abbrev Chk := Mu → Prop
structure Wk where
  items : List Sv
  chk : Chk
def WalkC (G : Gx) (F : Hp) (ρ : List Addr) (J : It) (k : Wk) : Prop := ∀ F' ρ' μ' H', Gr F F' ρ ρ' → Wf G F' ρ' μ' H' → k.chk μ' → ∀ i : Nat,
  (k.items.length ≤ i → J.stop i H') ∧ ∀ y, k.items[i]? = some y → J.go i H' ∧ ∀ x H'', J.yld i H' x H'' → ∃ F'' ρ'', Gr F' F'' ρ' ρ'' ∧ Wf G F'' ρ'' μ' H'' ∧ Rs G F'' ρ'' x y
theorem WalkC.mono {G : Gx} {F F1 : Hp} {ρ ρ1 : List Addr} {J : It} {k : Wk} (g : Gr F F1 ρ ρ1) (h : WalkC G F ρ J k) : WalkC G F1 ρ1 J k := fun F' ρ' μ' H' g' w c => h F' ρ' μ' H' (g.trans g') w c
abbrev zW (G : Gx) (W : WX) (f : Fz Wk) : TI := zG G W (WalkC G) f
open Classical in
noncomputable def forLW (ck : Chk) (g : Tz) (S : Sz) : List Sv → Sz
  | [], δ, μ => if ck μ then some (.nx, δ, μ) else none
  | x :: xs, δ, μ => if ck μ then (match g x δ with
    | none => none
    | some δ1 => match S δ1 μ with
      | some (.nx, δ2, μ2) => forLW ck g S xs δ2 μ2
      | some (.ct, δ2, μ2) => forLW ck g S xs δ2 μ2
      | some (.bk, δ2, μ2) => some (.nx, δ2, μ2)
      | r => r) else none
noncomputable def sForW (fi : Fz Wk) (g : Tz) (S : Sz) : Sz := fun δ μ => eS (fi δ μ) δ fun k μ => forLW k.chk g S k.items δ μ
open Classical in
noncomputable def lcLW (ck : Chk) (g : Tz) (c : Fz Bool) (e : Fz Sv) (n : Nat) (δ : Dl) : List Sv → Mu → Option Mu
  | [], μ => if ck μ then some μ else none
  | x :: xs, μ => if ck μ then (match g x δ with
    | none => none
    | some δ1 => match c δ1 μ with
      | some (.ok true, μ1) => match e δ1 μ1 with
        | some (.ok y, μ2) => match μ2[n]? with
          | some (.lst acc) => if acc.length < 16777216 then lcLW ck g c e n δ xs (μ2.set n (.lst (acc ++ [y]))) else none
          | _ => none
        | _ => none
      | some (.ok false, μ1) => lcLW ck g c e n δ xs μ1
      | _ => none) else none
noncomputable def fLcW (fi : Fz Wk) (vs : List Nat) (g : Tz) (c : Fz Bool) (e : Fz Sv) : Fz Sv := fun δ μ => (fi δ μ).bind fun k μ => match lcLW k.chk g c e μ.length (wipeZ δ vs) k.items (μ ++ [.lst []]) with
  | some μ' => some (.ok (.c μ.length), μ')
  | none => none
section
variable {G : Gx} {X : Cx} {W : WX} {tg iter c elt : Expr} {ifs : List Expr} {body : List Stmt} {fi : Fz Wk} {t : TG} {g : Tz} {S : Sz} {js : List Nat} {pos : Pos} {fc : Fz Bool} {fe : Fz Sv} {w : TI} {scope : Scope} {own : List (Str × Nat)}
theorem forW_reads (zg : ZG G js t g) {D : Ends} {σ : L2.St} {H : Hp} (q : zS G W (sForW fi g S) D σ H) : tFor (zW G W fi) t (zS G W S) D σ H := by
  obtain ⟨F, ρ, δ, μ, r, w, s, e, p⟩ := q
  refine zstepS w s e p fun k μ1 J F1 ρ1 H1 g1 w1 s1 wk e1 p1 => ?_
  refine ⟨fun i m σ' H' => m = k.items.length - i ∧ i ≤ k.items.length ∧ ∃ F' ρ' δ' μ', Gr F1 F' ρ1 ρ' ∧ Wf G F' ρ' μ' H' ∧ Sl G F' ρ' σ' δ' ∧ forLW k.chk g S (k.items.drop i) δ' μ' = some r,
    ⟨k.items.length, rfl, Nat.zero_le _, F1, ρ1, δ, μ1, Gr.refl _ _, w1, s1, e1⟩, ?_⟩
  rintro i m σ' H' ⟨rfl, hi, F', ρ', δ', μ', g', w', s', e'⟩
  by_cases hlt : i < k.items.length
  · have hd : k.items.drop i = k.items[i] :: k.items.drop (i + 1) := List.drop_eq_getElem_cons hlt
    rw [hd] at e'
    unfold forLW at e'
    split at e'
    case isFalse => cases e'
    rename_i hck
    obtain ⟨go, yl⟩ := (wk F' ρ' μ' H' g' w' hck i).2 k.items[i] (List.getElem?_eq_getElem hlt)
    refine .inr ⟨go, fun σ2 H2 => ∃ F2 ρ2 δ2 μ2, Gr F1 F2 ρ1 ρ2 ∧ Wf G F2 ρ2 μ2 H2 ∧ Sl G F2 ρ2 σ2 δ2 ∧ forLW k.chk g S (k.items.drop (i + 1)) δ2 μ2 = some r, fun σ2 H2 ⟨F2, ρ2, δ2, μ2, g2, w2, s2, e2⟩ => ⟨k.items.length - (i + 1), by omega, rfl, hlt, F2, ρ2, δ2, μ2, g2, w2, s2, e2⟩, fun x H2 hy => ?_⟩
    obtain ⟨F2, ρ2, gy, wy, rx⟩ := yl x H2 hy
    cases hg : g k.items[i] δ' with
    | none => simp [hg] at e'
    | some δ1 =>
      simp only [hg] at e'
      refine zg.ok F2 ρ2 μ' H2 σ' δ' δ1 x _ _ wy (s'.mono gy) rx hg fun σ3 _ s3 => ?_
      cases hS : S δ1 μ' with
      | none => simp [hS] at e'
      | some q =>
        obtain ⟨fl, δ4, μ4⟩ := q
        have gg : Gr F1 F2 ρ1 ρ2 := g'.trans gy
        refine ⟨F2, ρ2, δ1, μ', _, wy, s3, hS, ?_⟩
        cases fl with
        | nx => simp only [hS] at e'; exact fun σ5 F5 ρ5 H5 g5 w5 s5 => ⟨F5, ρ5, δ4, μ4, gg.trans g5, w5, s5, e'⟩
        | ct => simp only [hS] at e'; exact fun σ5 F5 ρ5 H5 g5 w5 s5 => ⟨F5, ρ5, δ4, μ4, gg.trans g5, w5, s5, e'⟩
        | bk => simp only [hS] at e'; cases e'; exact fun σ5 F5 ρ5 H5 g5 w5 s5 => p1 σ5 F5 ρ5 H5 (gg.trans g5) w5 s5
        | rt v => simp only [hS] at e'; cases e'; exact fun a F5 ρ5 H5 g5 w5 s5 => p1 a F5 ρ5 H5 (gg.trans g5) w5 s5
        | ex v => simp only [hS] at e'; cases e'; exact fun c d σ5 F5 ρ5 H5 g5 w5 s5 => p1 c d σ5 F5 ρ5 H5 (gg.trans g5) w5 s5
  · have hi' : k.items.length ≤ i := by omega
    rw [List.drop_eq_nil_of_le hi'] at e'
    unfold forLW at e'
    split at e'
    case isFalse => cases e'
    rename_i hck
    refine .inl ⟨(wk F' ρ' μ' H' g' w' hck i).1 hi', ?_⟩
    cases e'
    exact p1 σ' F' ρ' H' g' w' s'
theorem zs_forW (hp : PassesOwn (model X.prog X.w) X.A X.env X.xe) (hc : X.calm = true) (hi : PI X tg iter (zW G W fi)) (hg : PG X tg t) (zg : ZG G js t g) (hb : PSs X body (zS G W S)) (hs : ∀ x, foldedSetIterable iter X.env x = pure x := by intro _; rfl) :
    PS X (.For tg iter body [] pos) (zS G W (sForW fi g S)) := psImp (ps_for hp hc hi hg hb hs) fun _ _ _ q => forW_reads zg q
theorem lcW_reads (zg : ZG G js t g) (hj : ∀ j ∈ js, j ∈ own.map (·.2)) {σ : L2.St} {H : Hp} {Q : VK} (q : zE G W (fLcW fi (own.map (·.2)) g fc fe) σ H Q) : tLc (zW G W fi) t (zT G W0 fc) (zE G W0 fe) (own.map (·.2)) σ H Q := by
  obtain ⟨F, ρ, δ, μ, r, w, s, e, p⟩ := q
  refine zstep w s e p fun k μ1 J F1 ρ1 H1 g1 w1 s1 wk e1 p1 => ?_
  intro Dn hD
  split at e1
  case h_2 => cases e1
  rename_i μe he
  cases e1
  obtain ⟨w2, g2⟩ := w1.newC (p := Dn) hD (o := .lst []) (c := .lst []) ⟨w1.ex.none hD, [], upd_same, .nil⟩
  refine ⟨fun i m H' => m = k.items.length - i ∧ i ≤ k.items.length ∧ ∃ F' ρ' μ', Gr F1 F' (ρ1 ++ [Dn]) ρ' ∧ Wf G F' ρ' μ' H' ∧ lcLW k.chk g fc fe μ1.length (wipeZ δ (own.map (·.2))) (k.items.drop i) μ' = some μe,
    ⟨k.items.length, rfl, Nat.zero_le _, F1, ρ1 ++ [Dn], _, Gr.refl _ _, w2, he⟩, ?_⟩
  rintro i m H' ⟨rfl, hi, F', ρ', μ', g', w', e'⟩
  have nD : ρ'[μ1.length]? = some Dn := g'.at (by rw [← w1.len]; simp)
  by_cases hlt : i < k.items.length
  · have hd : k.items.drop i = k.items[i] :: k.items.drop (i + 1) := List.drop_eq_getElem_cons hlt
    rw [hd] at e'
    unfold lcLW at e'
    split at e'
    case isFalse => cases e'
    rename_i hck
    obtain ⟨go, yl⟩ := (wk F' ρ' μ' H' (g2.trans g') w' hck i).2 k.items[i] (List.getElem?_eq_getElem hlt)
    refine .inr ⟨go, fun H2 => ∃ F2 ρ2 μ2, Gr F1 F2 (ρ1 ++ [Dn]) ρ2 ∧ Wf G F2 ρ2 μ2 H2 ∧ lcLW k.chk g fc fe μ1.length (wipeZ δ (own.map (·.2))) (k.items.drop (i + 1)) μ2 = some μe, fun H2 ⟨F2, ρ2, μ2, g2, w2, e2⟩ => ⟨k.items.length - (i + 1), by omega, rfl, hlt, F2, ρ2, μ2, g2, w2, e2⟩, fun x H2 hy => ?_⟩
    obtain ⟨F2, ρ2, gy, wy, rx⟩ := yl x H2 hy
    cases hg : g k.items[i] (wipeZ δ (own.map (·.2))) with
    | none => simp [hg] at e'
    | some δ1 =>
      simp only [hg] at e'
      refine zg.ok F2 ρ2 μ' H2 _ _ δ1 x _ _ wy (((s1.mono g2).mono (g'.trans gy)).wipe _) rx hg fun σ3 b3 s3 => ⟨wipe_same hj b3, ?_⟩
      cases hc : fc δ1 μ' with
      | none => simp [hc] at e'
      | some q =>
        obtain ⟨b, μ3⟩ := q
        refine ⟨F2, ρ2, δ1, μ', _, wy, s3, hc, ?_⟩
        cases b with
        | error x => simp [hc] at e'
        | ok b =>
          intro bb F3 ρ3 H3 g3 w3 ebb
          subst ebb
          cases bb with
          | false =>
            simp only [hc] at e'
            exact ⟨F3, ρ3, μ3, (g'.trans gy).trans g3, w3, e'⟩
          | true =>
            simp only [hc] at e'
            simp only [if_true]
            cases hf : fe δ1 μ3 with
            | none => simp [hf] at e'
            | some q =>
              obtain ⟨y, μ4⟩ := q
              refine ⟨F3, ρ3, δ1, μ3, _, w3, s3.mono g3, hf, ?_⟩
              cases y with
              | error x => simp [hf] at e'
              | ok y =>
                intro vy F4 ρ4 H4 g4 w4 ry
                simp only [hf] at e'
                have gall : Gr F1 F4 (ρ1 ++ [Dn]) ρ4 := ((g'.trans gy).trans g3).trans g4
                have nD4 : ρ4[μ1.length]? = some Dn := gall.at (by rw [← w1.len]; simp)
                split at e'
                · rename_i acc hacc
                  split at e'
                  · rename_i hlen
                    obtain ⟨h0, vs, h1, h2⟩ := w4.cell _ _ _ nD4 hacc
                    refine ⟨vs, h1, by rw [h2.len]; exact hlen, F4, ρ4, _, gall, w4.setC nD4 h0 (show CellOk G F4 ρ4 _ Dn (.lst (acc ++ [y])) from ⟨h0, vs ++ [vy], upd_same, h2.app (.cons ry .nil)⟩), e'⟩
                  · cases e'
                · cases e'
  · have hi' : k.items.length ≤ i := by omega
    rw [List.drop_eq_nil_of_le hi'] at e'
    unfold lcLW at e'
    split at e'
    case isFalse => cases e'
    rename_i hck
    refine .inl ⟨(wk F' ρ' μ' H' (g2.trans g') w' hck i).1 hi', ?_⟩
    cases e'
    exact p1 _ F' ρ' H' (g2.trans g') w' (.c nD)
theorem z_lcW {vs : List Nat} (hc : X.calm = true) (hN : X.N.Nodup) (hi : PI X tg iter (zW G W fi)) (ok : BlkOk X.N X.env.scope scope own) (hv : own.map (·.2) = vs) (zg : ZG G js t g) (hj : ∀ j ∈ js, j ∈ vs)
    (hg : ∀ (s : Shared) (H : Hp) (C : Addr) (cl : List (Str × Addr)) (fp : List Addr), PG (X.blk s H scope (compEnvC scope cl C X.env) fp) tg t)
    (ht : ∀ (s : Shared) (H : Hp) (C : Addr) (cl : List (Str × Addr)) (fp : List Addr), PTs (X.blk s H scope (compEnvC scope cl C X.env) fp) ifs (zT G W0 fc))
    (he : ∀ (s : Shared) (H : Hp) (C : Addr) (cl : List (Str × Addr)) (fp : List Addr), PE (X.blk s H scope (compEnvC scope cl C X.env) fp) elt (zE G W0 fe)) (hs : ∀ x, foldedSetIterable iter X.env x = pure x := by intro _; rfl) :
    PE X (.ListComp elt [⟨tg, iter, ifs, 0⟩] scope pos) (zE G W (fLcW fi vs g fc fe)) := by
  subst hv; exact peImp (pe_lc hc hN hi ok hg ht he hs) fun _ _ _ q => lcW_reads zg hj q
theorem zs_setLcW {vs : List Nat} {f' : Fz Sv} (conv : ∀ σ H Q, zE G W f' σ H Q → zE G W (fLcW fi vs g fc fe) σ H Q) {i : Nat} {y : Str} {py : Pos} {spos : Pos} (hc : X.calm = true) (hN : X.N.Nodup) (hy : X.N[i]? = some y) (hyl : X.env.scope.names.lookup y = some .local)
    (hsw : swapsWith (.ListComp elt [⟨tg, iter, ifs, 0⟩] scope pos) (some (.Name y py)) spos.line X.env = pure true) (hi : PI X tg iter (zW G W fi)) (ok : BlkOk X.N X.env.scope scope own) (hv : own.map (·.2) = vs) (zg : ZG G js t g) (hj : ∀ j ∈ js, j ∈ vs)
    (hg : ∀ (s : Shared) (H : Hp) (C : Addr) (cl : List (Str × Addr)) (fp : List Addr), PG (X.blk s H scope (compEnvC scope cl C X.env) fp) tg t)
    (ht : ∀ (s : Shared) (H : Hp) (C : Addr) (cl : List (Str × Addr)) (fp : List Addr), PTs (X.blk s H scope (compEnvC scope cl C X.env) fp) ifs (zT G W0 fc))
    (he : ∀ (s : Shared) (H : Hp) (C : Addr) (cl : List (Str × Addr)) (fp : List Addr), PE (X.blk s H scope (compEnvC scope cl C X.env) fp) elt (zE G W0 fe)) (hs : ∀ x, foldedSetIterable iter X.env x = pure x := by intro _; rfl) :
    PS X (.Assign [.Name y py] (.ListComp elt [⟨tg, iter, ifs, 0⟩] scope pos) spos) (zS G W (sSet i f')) := by
  subst hv
  exact psImp (ps_setLc hc hN hy hyl hsw hi ok hg ht he hs) fun D σ H q => by
    obtain ⟨F, ρ, δ, μ, r, w, s, e, p⟩ := q
    have q2 : zE G W f' σ H (fun x H1 => gName i x σ H1 D.nx) := zstepS w s e p fun sa μ1 x F1 ρ1 H1 g1 w1 s1 rx e1 p1 => by
      cases e1
      exact p1.nx rfl w1 (s1.set rx i)
    exact lcW_reads zg hj (conv _ _ _ q2)
/-! the walks: lists as cells or trees, alone, with numbers, side by side -/
def lstC (v : Sv) (μ : Mu) : Option Wk := match v with
  | .d (.lst l) => some ⟨l.map Sv.d, fun _ => True⟩
  | .c n => match μ[n]? with
    | some (.lst xs) => some ⟨xs, fun μ => μ[n]? = some (.lst xs)⟩
    | _ => none
  | _ => none
theorem lstC_at {F : Hp} {ρ : List Addr} {μ : Mu} {H : Hp} {v : V} {sv : Sv} {k : Wk} (w : Wf G F ρ μ H) (r : Rs G F ρ v sv) (h : lstC sv μ = some k) : ∃ a vs, v = .ref a ∧ SqL G.K H a vs ∧ RsL G F ρ vs k.items ∧ k.chk μ ∧
    ∀ F' ρ' μ' H', Gr F F' ρ ρ' → Wf G F' ρ' μ' H' → k.chk μ' → ∃ vs, SqL G.K H' a vs ∧ RsL G F' ρ' vs k.items := by
  unfold lstC at h
  split at h
  · cases h
    cases r with
    | d r => cases r with
      | lst h1 h2 => exact ⟨_, _, rfl, w.ex.l h1, RsL.ofD h2, trivial, fun F' ρ' μ' H' g w' _ => ⟨_, w'.ex.l (g.f.l h1), (RsL.ofD h2).mono g⟩⟩
  · split at h
    · rename_i n xs hx
      cases h
      cases r with
      | c hr =>
        obtain ⟨_, vs, h1, h2⟩ := w.cell _ _ _ hr hx
        refine ⟨_, vs, rfl, SqL.of h1, h2, hx, fun F' ρ' μ' H' g w' hc => ?_⟩
        obtain ⟨_, ws, k1, k2⟩ := w'.cell _ _ _ (g.at hr) hc
        exact ⟨ws, SqL.of k1, k2⟩
    · cases h
  · cases h
variable {F : Hp} {ρ : List Addr} {μ : Mu} {H : Hp} {a b : Expr} {fa fb : Fz Sv} {fr : Fz (List Sv)} {fl : Fz (List Sv)} {p : Pos}
/-- what was a plain walk -/
def fWk (f : Fz (List Sv)) : Fz Wk := fun δ μ => (f δ μ).bind fun l μ => some (.ok ⟨l, fun _ => True⟩, μ)
theorem zi_wk {iter tg : Expr} (h : PI X tg iter (zI G W fl)) : PI X tg iter (zW G W (fWk fl)) := piImp h fun σ H R q => by
  obtain ⟨F, ρ, δ, μ, rr, w, s, e, p⟩ := q
  exact zstep w s e p fun l μ1 J F1 ρ1 H1 g1 w1 s1 wk e1 p1 => by
    cases e1
    exact p1.ok w1 (fun F' ρ' μ' H' g w _ => wk F' ρ' μ' H' g w)
/-- a list, a tuple, a text -/
def fSeqW (fa : Fz Sv) : Fz Wk := fun δ μ => (fa δ μ).bind fun a μ => match a with
  | .d (.tup l) => some (.ok ⟨l.map Sv.d, fun _ => True⟩, μ)
  | .d (.str s) => some (.ok ⟨s.map fun c => .d (.str [c]), fun _ => True⟩, μ)
  | a => match lstC a μ with
    | some k => some (.ok k, μ)
    | none => none
theorem wkC_lst {v : V} {sv : Sv} {k : Wk} {l : Addr} (w : Wf G F ρ μ H) (r : Rs G F ρ v sv) (h : lstC sv μ = some k) (hv : v = .ref l) : WalkC G F ρ (Itl G.K l) k := by
  obtain ⟨a, vs, e, _, _, _, hh⟩ := lstC_at w r h
  rw [hv] at e; cases e
  intro F' ρ' μ' H' g w' c i
  obtain ⟨ws, r1, r2⟩ := hh F' ρ' μ' H' g w' c
  have hl := r2.len
  refine ⟨fun hi => ⟨ws, r1, by rw [hl]; exact hi⟩, fun y hy => ?_⟩
  obtain ⟨u, hu, ru⟩ := RsL.get r2 hy
  refine ⟨⟨ws, u, r1, hu⟩, fun x H'' ⟨e1, hx⟩ => ?_⟩
  subst e1
  have := hx ws r1
  rw [hu] at this; cases this
  exact ⟨F', ρ', Gr.refl _ _, w', ru⟩
theorem zi_seqW (hK : G.K = X.K) (ha : PE X a (zE G W fa)) : PI X tg a (zW G W (fSeqW fa)) := piImp (piOr (pi_list ha) (piOr (pi_tup ha) (pi_str ha))) fun σ H R q => by
  obtain ⟨F, ρ, δ, μ, rr, w, s, e, p⟩ := q
  unfold fSeqW at e
  cases h : fa δ μ with
  | none => rw [h] at e; cases e
  | some q =>
    obtain ⟨v, μ1⟩ := q
    rw [h] at e
    cases v with
    | error x => cases e; exact .inl ⟨F, ρ, δ, μ, _, w, s, h, p⟩
    | ok v =>
      rw [Rz.bind_ok] at e
      split at e
      · cases e
        refine .inr (.inl ⟨F, ρ, δ, μ, _, w, s, h, fun x F1 ρ1 H1 g1 w1 r1 => ?_⟩)
        cases r1 with
        | d r1 => cases r1 with
          | tup h1 h2 => exact ⟨_, rfl, ⟨_, by rw [← hK]; exact w1.ex.t h1⟩, by rw [← hK]; exact p _ _ _ _ g1 w1 (fun F' ρ' μ' H' g w _ => wk_tup h1 h2 F' ρ' μ' H' g w)⟩
      · cases e
        refine .inr (.inr ⟨F, ρ, δ, μ, _, w, s, h, fun x F1 ρ1 H1 g1 w1 r1 => ?_⟩)
        cases r1 with
        | d r1 => cases r1 with
          | str z => exact ⟨z, rfl, p _ _ _ _ g1 w1 (fun F' ρ' μ' H' g w _ => wk_str z F' ρ' μ' H' g w)⟩
      · split at e
        · rename_i k hk
          cases e
          refine .inl ⟨F, ρ, δ, μ, _, w, s, h, fun x F1 ρ1 H1 g1 w1 r1 => ?_⟩
          obtain ⟨l, vs, e1, h1, _, _, _⟩ := lstC_at w1 r1 hk
          exact ⟨l, e1, ⟨vs, by rw [← hK]; exact h1⟩, by rw [← hK]; exact p _ _ _ _ g1 w1 (wkC_lst w1 r1 hk e1)⟩
        · cases e
/-- the items with numbers, side by side: trees alone -/
def fEnumW (fr : Fz (List Sv)) : Fz Wk := fun δ μ => (fr δ μ).bind fun as μ => match as with
  | [v] => match lstC v μ with
    | some k => match toDs k.items with
      | some ds => some (.ok ⟨enI 0 ds, k.chk⟩, μ)
      | none => none
    | none => none
  | _ => none
theorem zi_enumW (hK : G.K = X.K) {elts : List Expr} {kk : Nat} {tpos : Pos} (hg : Gl X "enumerate") (hm : X.mg "enumerate" = none) (ha : PA X [a] (zA G W fr)) (hs : starEach [a] X.env = [(false, eval a X.env)] := by rfl) :
    PI X (.Tuple elts kk tpos) (.Call (.Name "enumerate" p) [a] [] pos) (zW G W (fEnumW fr)) := piImp (pi_enum hg hm ha hs) fun σ H R q => by
  obtain ⟨F, ρ, δ, μ, rr, w, s, e, p⟩ := q
  refine zstep w s e p fun sa μ1 x F1 ρ1 H1 g1 w1 s1 rx e1 p1 => ?_
  split at e1
  · split at e1
    · rename_i v k hk
      split at e1
      · rename_i ds hd
        cases e1
        cases rx with
        | cons r t =>
          cases t
          obtain ⟨l, vs, rfl, h1, h2, hc, hh⟩ := lstC_at w1 r hk
          refine ⟨l, vs, rfl, by rw [← hK]; exact h1, ?_⟩
          rw [← hK]
          refine p1.ok w1 (fun F' ρ' μ' H' g w' c i => ?_)
          obtain ⟨ws, r1, r2⟩ := hh F' ρ' μ' H' g w' c
          rw [of_toDs hd] at r2
          have hl := r2.len
          rw [List.length_map] at hl
          refine ⟨fun hi => ⟨ws, r1, by rw [hl]; rw [enI_len] at hi; exact hi⟩, fun y hy => ?_⟩
          rw [enI_get] at hy
          cases hd : ds[i]? with
          | none => rw [hd] at hy; cases hy
          | some d =>
            rw [hd] at hy
            have hy' : Sv.d (.tup [.int ((0 + i : Nat) : Int), d]) = y := Option.some.inj hy
            subst hy'
            obtain ⟨u, hu, ru⟩ := RsL.get r2 (show (ds.map Sv.d)[i]? = some (.d d) by rw [List.getElem?_map, hd]; rfl)
            refine ⟨⟨ws, u, r1, hu⟩, fun x H'' ⟨T, z, ev, hT, eH, hx⟩ => ?_⟩
            have e1 := hx ws r1
            rw [hu] at e1; cases e1
            subst ev eH
            obtain ⟨w2, g2⟩ := w'.newD hT (.tup [.int (i : Nat), u])
            refine ⟨_, ρ', g2, w2, .d (.tup (SqT.of upd_same) ?_)⟩
            cases ru with
            | d ru =>
              rw [Nat.zero_add]
              exact .cons (.int _) (.cons (ru.mono g2.f) .nil)
      · cases e1
    · cases e1
  · cases e1
def fZipW (fr : Fz (List Sv)) : Fz Wk := fun δ μ => (fr δ μ).bind fun as μ => match as with
  | [u, v] => match lstC u μ, lstC v μ with
    | some k, some m => match toDs k.items, toDs m.items with
      | some ds, some es => some (.ok ⟨zipI ds es, fun μ => k.chk μ ∧ m.chk μ⟩, μ)
      | _, _ => none
    | _, _ => none
  | _ => none
theorem zi_zipW (hK : G.K = X.K) {elts : List Expr} {kk : Nat} {tpos : Pos} (hg : Gl X "zip") (hm : X.mg "zip" = none) (ha : PA X [a, b] (zA G W fr)) (hs : starEach [a, b] X.env = (false, eval a X.env) :: starEach [b] X.env := by rfl) (hpl : (backTo pos (starEach [b] X.env)).any (·.1) = false := by rfl) :
    PI X (.Tuple elts kk tpos) (.Call (.Name "zip" p) [a, b] [] pos) (zW G W (fZipW fr)) := piImp (pi_zip hg hm ha hs hpl) fun σ H R q => by
  obtain ⟨F, ρ, δ, μ, rr, w, s, e, p⟩ := q
  refine zstep w s e p fun sa μ1 x F1 ρ1 H1 g1 w1 s1 rx e1 p1 => ?_
  split at e1
  · split at e1
    · rename_i u v k m hk hm'
      split at e1
      · rename_i ds es hd he
        cases e1
        cases rx with
        | cons r t => cases t with
          | cons r' t =>
            cases t
            obtain ⟨l, vs, rfl, h1, h2, hc, hh⟩ := lstC_at w1 r hk
            obtain ⟨l', vs', rfl, h1', h2', hc', hh'⟩ := lstC_at w1 r' hm'
            refine ⟨l, l', vs, vs', rfl, by rw [← hK]; exact h1, by rw [← hK]; exact h1', ?_⟩
            rw [← hK]
            refine p1.ok w1 (fun F' ρ' μ' H' g w' c i => ?_)
            obtain ⟨ws, r1, r2⟩ := hh F' ρ' μ' H' g w' c.1
            obtain ⟨ws', r3, r4⟩ := hh' F' ρ' μ' H' g w' c.2
            rw [of_toDs hd] at r2
            rw [of_toDs he] at r4
            have hl := r2.len
            have hl' := r4.len
            rw [List.length_map] at hl hl'
            refine ⟨fun hi => ⟨ws, ws', r1, r3, by rw [zipI_len] at hi; rw [hl, hl']; omega⟩, fun y hy => ?_⟩
            rw [zipI_get] at hy
            cases hd1 : ds[i]? with
            | none => rw [hd1] at hy; cases hy
            | some d =>
              cases hd2 : es[i]? with
              | none => rw [hd1, hd2] at hy; cases hy
              | some d2 =>
                rw [hd1, hd2] at hy
                have hy' : Sv.d (.tup [d, d2]) = y := Option.some.inj hy
                subst hy'
                obtain ⟨u, hu, ru⟩ := RsL.get r2 (show (ds.map Sv.d)[i]? = some (.d d) by rw [List.getElem?_map, hd1]; rfl)
                obtain ⟨u2, hu2, ru2⟩ := RsL.get r4 (show (es.map Sv.d)[i]? = some (.d d2) by rw [List.getElem?_map, hd2]; rfl)
                refine ⟨⟨ws, ws', u, u2, r1, r3, hu, hu2⟩, fun x H'' ⟨T, z, z2, ev, hT, eH, hx, hx2⟩ => ?_⟩
                have e1 := hx ws r1
                rw [hu] at e1; cases e1
                have e2 := hx2 ws' r3
                rw [hu2] at e2; cases e2
                subst ev eH
                obtain ⟨w2, g2⟩ := w'.newD hT (.tup [u, u2])
                refine ⟨_, ρ', g2, w2, .d (.tup (SqT.of upd_same) ?_)⟩
                cases ru with
                | d ru => cases ru2 with
                  | d ru2 => exact .cons (ru.mono g2.f) (.cons (ru2.mono g2.f) .nil)
      · cases e1
    · cases e1
  · cases e1
end
end Z
namespace Z
open PySem PySem.Spec PyProof.Rows L2
theorem exA_ok {P : Program} {w : World} {H : Hp} {h : Heap} {a : Addr} {cls : Value} {d : Option Addr} {oe : Obj} {vs : Array Value} (e : h.get? a = some oe) (z : Zc cls d oe) (hd : oe.data = .fields vs) : ObjOk P w H h a (ExA cls d a) :=
  ⟨⟨oe, vs, e, z, hd⟩, ⟨oe, e⟩, fun _ _ ⟨o, v, q, r⟩ k => ⟨o, v, k o q, r⟩⟩
section
variable {X : Cx} {x n y : Str} {c : Value} {i j : Nat} {body : List Stmt} {np ny nn pos pos' pos2 : Pos} {tb : WX → TS} {Wout : WX} {pins : List (Addr × Obj)} {σ : L2.St} {H : Hp} {s : Shared}
/-- a pinned object that is new to the def is tracked -/
theorem inv_track {a : Addr} {oe : Obj} {vs : Array Value} {cls : Value} {d : Option Addr} (J : Inv X ((a, oe) :: pins) σ H s) (h0 : X.s_0.heap.get? a = none) (hp : ∀ p ∈ X.pn ++ pins, p.1 ≠ a) (z : Zc cls d oe) (hd : oe.data = .fields vs) : Inv X pins σ (upd H a (ExA cls d a)) s := by
  obtain ⟨p1, p2, p3, p4, p5⟩ := J.pin (a, oe) (List.mem_append_right _ List.mem_cons_self)
  have ne0 : ∀ b o, X.s_0.heap.get? b = some o → b ≠ a := fun b o e q => by rw [q, h0] at e; cases e
  have neH : ∀ b o, H b = some o → b ≠ a := fun b o e q => by rw [q] at e; rw [show H a = none from p2] at e; cases e
  refine ⟨J.ok, J.os, J.bare, ⟨J.base.keep, J.base.slot, fun b o e q hx => ?_, J.base.there, fun b xs e => ?_, fun b o u e => ?_, fun b ps e => ?_⟩, J.loc, J.cell, ?_, fun x c e => ?_, fun p hq => ?_, ?_, J.len⟩
  · rw [upd_ne (ne0 b o e)]; exact J.base.free b o e q hx
  · have := J.base.tups b xs e
    rw [upd_ne (neH b _ this)]; exact this
  · have := J.base.frzs b o u e
    rw [upd_ne (neH b _ this)]; exact this
  · obtain ⟨more, this⟩ := J.base.tbls b ps e
    exact ⟨more, by rw [upd_ne (neH b _ this)]; exact this⟩
  · rw [upd_ne (fun q => p3 q.symm)]; exact J.free
  · have hc : c ≠ a := fun q => by
      obtain ⟨v, o, ho, hv⟩ := J.cell x c e
      rw [q] at ho
      rw [show s.heap.get? a = some oe from p1] at ho
      cases ho
      rw [hd] at hv
      cases hv
    rw [upd_ne hc]; exact J.freeC x c e
  · obtain ⟨q1, q2, q3⟩ := J.pin p (by
      rcases List.mem_append.1 hq with h | h
      · exact List.mem_append_left _ h
      · exact List.mem_append_right _ (List.mem_cons_of_mem _ h))
    exact ⟨q1, by rw [upd_ne (hp p hq)]; exact q2, q3⟩
  · exact J.hok.laidN (fun _ _ q => q) p2 (exA_ok p1 z hd)
/-- a pin more -/
theorem inv_pin {a : Addr} {oe : Obj} {vs : Array Value} (J : Inv X pins σ H s) (ha : s.heap.get? a = some oe) (hd : oe.data = .fields vs) (na : H a = none) (nL : a ≠ X.env.locals) (nF : a ∉ X.fs) : Inv X ((a, oe) :: pins) σ H s :=
  ⟨J.ok, J.os, J.bare, J.base, J.loc, J.cell, J.free, J.freeC, fun p hq => by
    rcases List.mem_append.1 hq with h | h
    · exact J.pin p (List.mem_append_left _ h)
    · rcases List.mem_cons.1 h with e | h
      · rw [e]; exact ⟨ha, na, nL, nF, fun v z => by have z' : oe.data = .cell v := z; rw [hd] at z'; cases z'⟩
      · exact J.pin p (List.mem_append_right _ h), J.hok, J.len⟩
/-- what 'except x as n: y = n' wishes of an exception: it is kept, tracked, in y's slot j; n's slot i is free again -/
def wKeep (K : PySem.W.Frag) (c : Value) (i j : Nat) (Wout : WX) (D : Ends) : WX := fun cls d σ H =>
  ∃ b, PySem.W.exmOne K cls c = some b ∧ (b = true → ∀ a, H a = none → D.nx (((σ.set i (some (.ref a))).set j (some (.ref a))).set i none) (upd H a (ExA cls d a))) ∧ (b = false → Wout cls d σ H)
theorem ps_try_keep (hs : X.stack = X.env :: X.outer) (hf : X.env.frame = some X.env.locals) (hex : X.ex = []) (hN : X.N.Nodup) (hi : X.N[i]? = some n) (hln : X.env.kindOf n = some .local) (hij : i < X.N.length) (hj : X.N[j]? = some y) (hly : Loc X.env.scope y)
    (hfy : X.fn y = true ∨ X.env.scope.names.lookup y = some .local) (hvn : Vis X.env.scope n) (hdn : (n == ("__debug__" : Str)) = false) (hcn : (n == ("__classdict__" : Str)) = false)
    (hc : Names X x c) (tk : Takes X Wout)
    (hsw : swapsWithSole [.Name y ny] (.Name n nn) pos2.line X.env = pure false) (hsp : swappedStores [.Name y ny] (.Name n nn) X.env = pure none) (hae : (assignEach [.Name y ny] X.env).map (·.2) = [assign (.Name y ny) X.env])
    (hb : ∀ (W : WX) (pn : List (Addr × Obj)) (xe : Value → Shared → Prop), Takes (X.tr pn xe) W → PassesOwn (model X.prog X.w) X.A X.env xe → PSs (X.tr pn xe) body (tb W)) :
    PS X (.Try body [.ExceptHandler (some (.Name x np)) (some n) [.Assign [.Name y ny] (.Name n nn) pos2] pos'] [] [] pos) (fun D σ H => tb (wKeep X.K c i j Wout D) D σ H) := by
  refine ⟨fun pins s σ H D I h => ?_⟩
  have ok := I.ok
  have frm : X.A.frames = some (X.env :: X.outer) := by rw [ok.frames, hs]
  refine wpAny_Try_except ?_
  have B1 := (hb (wKeep X.K c i j Wout D) (X.pn ++ pins) (fun e s₁ => wpAny (model X.prog X.w) X.A (noteFrame e X.env) (fun _ s₂ => wpAny (model X.prog X.w) X.A (setFlight e none) (fun _ s₃ =>
    wpAny (model X.prog X.w) X.A (handleBy e X.env [.ExceptHandler (some (.Name x np)) (some n) [.Assign [.Name y ny] (.Name n nn) pos2] pos']) (SP X pins D) X.xe s₃) X.xe s₂) X.xe s₁) ?tk PassesOwn.looking).run [] s σ H D (I.toTry _) h
  case tk =>
    intro u s' xx
    obtain ⟨a, B, sI, pins', σ', H', cls, d, rfl, J', nb, up, sky, na, os, ag, b, hb1, hyes, hno⟩ := xx
    have J : Inv X pins σ' H' sI := J'.ofTry ok
    have sky' : Sky B (X.env :: X.outer) a (Zc cls d) X.env.locals s'.heap := by rw [← hs]; exact sky
    refine Sky.land Zc.steady frm hf sky' fun h3 fl3 up3 => ?_
    have J3 : Inv X pins σ' H' { s' with heap := h3 } := J.landed nb fl3.1 (up.trans up3) os ag
    obtain ⟨oe3, vs3, he3, hz3, hd3⟩ := fl3.there
    have nfr : a ∉ frs (X.env :: X.outer) := fun hm => by
      obtain ⟨_, o', e', hnf⟩ := fl3.2.2.1.mem hm
      rw [he3] at e'; cases e'
      exact hnf _ hd3
    have nL : a ≠ X.env.locals := fun z => nfr (List.mem_filterMap.mpr ⟨X.env, List.mem_cons_self, by rw [hf, z]⟩)
    have nF : a ∉ X.fs := fun hm => by
      obtain ⟨e, he, q⟩ := List.mem_filterMap.mp hm
      exact nfr (List.mem_filterMap.mpr ⟨e, List.mem_cons_of_mem _ he, q⟩)
    have nI : sI.heap.get? a = none := by
      cases e : sI.heap.get? a with
      | none => rfl
      | some o =>
        have z := nb a o e (by rw [show (X.tr (X.pn ++ pins) _).stack = X.stack from rfl, hs]; exact nfr)
        rw [fl3.2.1] at z; cases z
    have n0 : X.s_0.heap.get? a = none := by
      cases e : X.s_0.heap.get? a with
      | none => rfl
      | some o =>
        obtain ⟨o', z⟩ := J.base.there a o e (by rw [hex]; exact List.not_mem_nil)
        rw [nI] at z; cases z
    have np' : ∀ p ∈ X.pn ++ pins, p.1 ≠ a := fun p hp q => by
      have z := (J.pin p hp).1
      rw [q, nI] at z; cases z
    have S3 := J3.suite he3 hd3 na nL nF
    refine wpAny_handleBy_cons (codeAny_handlers_test ?_) (by intro q; cases q)
    have LT : PySem.W.Looks (model X.prog X.w) h3 (typeOf (.ref a)) cls := fun A Q E s k q => wpAny_typeOf_ref (k _ _ he3) (by rw [hz3.1]; exact q)
    have LM := PySem.W.exm_one (M := model X.prog X.w) (J3.kIn) LT hb1
    have look : ∀ {Q : Value → Shared → Prop} {E : Value → Shared → Prop}, Q c { s' with heap := h3 } → wpAny (model X.prog X.w) (X.A.mark (some (.ref a))) (eval (.Name x np) X.env) Q E { s' with heap := h3 } := fun {Q E} q => by
      obtain ⟨hg, hdbg, hm | ⟨hm, hv, hnn⟩⟩ := hc
      · exact ld_glob (X := X.suite a ((a, oe3) :: (X.pn ++ pins))) S3 hg hm q hdbg
      · exact ld_blt (X := X.suite a ((a, oe3) :: (X.pn ++ pins))) S3 hg hm hv q hnn hdbg
    refine look (LM.here ?_)
    cases b with
    | true =>
      refine codeAny_handlers_suite_as ?_
      refine HandSPX.lands_againZ fl3 fun h4 fl4 up4 => ?_
      have J4 : Inv X pins σ' H' { s' with heap := h4 } := J.landed nb fl4.1 ((up.trans up3).trans up4) os ag
      obtain ⟨oe4, vs4, he4, hz4, hd4⟩ := fl4.there
      have S4 := (inv_pin J4 he4 hd4 na nL nF).suite he4 hd4 na nL nF
      refine store_ok (X := X.suite a ((a, oe4) :: (X.pn ++ ((a, oe4) :: pins)))) (v := .ref a) S4 hN hi (.inl hln) rfl (fun s5 S5 => ?_) (.inr hln)
      have rd : PSs (X.suite a ((a, oe4) :: (X.pn ++ ((a, oe4) :: pins)))) [.Assign [.Name y ny] (.Name n nn) pos2] (tAsg (tVar i) (gName j)) :=
        pss_one (ps_asg (pe_var hi hvn hdn hcn) (pg_name hN hj hly hfy) hsw hsp hae)
      have li : i < σ'.length := by rw [J.len]; exact hij
      refine wpAny_mono (rd.run [] s5 _ H' { nx := fun σ6 H6 => σ6 = (σ'.set i (some (.ref a))).set j (some (.ref a)) ∧ H6 = H', bk := fun _ _ => False, ct := fun _ _ => False, rt := fun _ _ => False } S5 ⟨.ref a, List.getElem?_set_self li, rfl, rfl⟩) (fun f s6 hq => ?_) (fun _ _ z => False.elim z)
      cases f with
      | next =>
        obtain ⟨σ6, H6, S6, rfl, rfl⟩ := hq
        refine gone_ok (S6.unsuite ok) hN hi hln fun s7 J7 => ?_
        exact ⟨_, _, inv_track J7 n0 np' hz4 hd4, hyes rfl a na⟩
      | brk => obtain ⟨_, _, _, z⟩ := hq; exact z.elim
      | cont => obtain ⟨_, _, _, z⟩ := hq; exact z.elim
      | ret u => obtain ⟨_, _, _, _, _, z⟩ := hq; exact z.elim
    | false =>
      show wpAny _ X.A (handleBy (.ref a) X.env []) _ _ _
      refine wpAny_handleBy_nil ?_
      obtain ⟨k1, k2, k3, oe, vs, T, oT, ts', he, hz, hd, h1, hr⟩ := id fl3
      unfold PySem.passOn
      refine wpAny_bind (wpAny_field he hd h1 ?_)
      rw [if_neg (show ¬ ((Value.ref T == Value.none) = true) from by simp)]
      have out : wpAny (model X.prog X.w) X.A (setFlight (.ref a) X.env.frame) (fun _ s4 => wpAny (model X.prog X.w) X.A (throw (.ref a) : Sem Flow) (SP X pins D) X.xe s4) X.xe { s' with heap := h3 } := by
        rw [hf]
        refine HandSPX.setFlight_upZ fl3 fun h4 hh4 up4 => wpAny_throw (tk _ _ ?_)
        exact ⟨a, B, sI, pins, σ', H', cls, d, rfl, J, nb, (up.trans up3).trans up4, .inr (.inr (by rw [hs]; exact hh4)), na, os, ag, hno rfl⟩
      first
        | exact wpAny_bind (wpAny_pure (wpAny_bind out))
        | exact wpAny_bind out
  refine wpAny_mono B1 (fun f s1 hq => ?_) (fun e s1 he => he)
  cases f with
  | next => obtain ⟨σ', H', J', q⟩ := hq; exact wpAny_execs_nil ⟨σ', H', J'.ofTry ok, q⟩
  | brk => obtain ⟨σ', H', J', q⟩ := hq; exact ⟨σ', H', J'.ofTry ok, q⟩
  | cont => obtain ⟨σ', H', J', q⟩ := hq; exact ⟨σ', H', J'.ofTry ok, q⟩
  | ret u => obtain ⟨v, σ', H', J', r, q⟩ := hq; exact ⟨v, σ', H', J'.ofTry ok, r, q⟩
end
end Z
namespace Z
open PySem PySem.Spec PyProof.Rows L2
section
variable {G : Gx} {X : Cx} {W : WX} {F : Hp} {ρ : List Addr} {μ : Mu} {H : Hp} {a b e : Expr} {es : List Expr} {fa : Fz Sv} {fr : Fz (List Sv)} {pos p p2 : Pos} {x : Str} {S : Sz}
/-! ### raise C('..') -/
def sRaise (c : String) : Sz := fun δ μ => some (.ex ⟨c, []⟩, δ, μ)
theorem zs_raise {C : Addr} {c : String} (hc : X.calm = true) (tk : Takes X W) (hm : PMk X e (fun _ H Q => Q (.ref C) none H)) (hC : G.cls c = C) : PS X (.Raise (some e) none pos) (zS G W (sRaise c)) := psImp (ps_raise hc tk hm) fun D σ H q => by
  obtain ⟨F, ρ, δ, μ, r, w, s, e, p⟩ := q
  cases e
  exact p _ _ σ F ρ H (Gr.refl F ρ) w s ⟨by rw [hC], .inl ⟨rfl, rfl⟩⟩

/-! ### try: .. except C as n: y = n -/
def sTryK (mt : String → Option Bool) (i j : Nat) (S : Sz) : Sz := fun δ μ => match S δ μ with
  | some (.ex x, δ1, μ1) => match mt x.c with
    | some true => some (.nx, ((δ1.set i (some (.d (.exc x.c x.fs)))).set j (some (.d (.exc x.c x.fs)))).set i none, μ1)
    | some false => some (.ex x, δ1, μ1)
    | none => none
  | r => r
theorem try_reads {mt : String → Option Bool} {i j : Nat} {c : Value} (hmt : ∀ k b, mt k = some b → PySem.W.exmOne G.K (.ref (G.cls k)) c = some b) {D : Ends} {σ : L2.St} (q : zS G W (sTryK mt i j S) D σ H) : zS G (wKeep G.K c i j W D) S D σ H := by
  obtain ⟨F, ρ, δ, μ, r, w, s, e, p⟩ := q
  unfold sTryK at e
  cases h : S δ μ with
  | none => rw [h] at e; cases e
  | some q =>
    obtain ⟨fl, δ1, μ1⟩ := q
    rw [h] at e
    refine ⟨F, ρ, δ, μ, _, w, s, h, ?_⟩
    cases fl with
    | nx => cases e; exact p
    | bk => cases e; exact p
    | ct => cases e; exact p
    | rt v => cases e; exact p
    | ex x =>
      intro cls d σ' F' ρ' H' g w' s' xr
      simp only at e
      split at e
      · rename_i hx
        cases e
        obtain ⟨rfl, xr⟩ := xr
        refine ⟨true, hmt _ _ hx, fun _ a na => ?_, (fun z => by cases z)⟩
        obtain ⟨w2, g2⟩ := w'.newD na (ExA (.ref (G.cls x.c)) d a)
        have rx : Rs G (upd F' a (ExA (.ref (G.cls x.c)) d a)) ρ' (.ref a) (.d (.exc x.c x.fs)) := by
          refine .d ?_
          rcases xr with ⟨e1, e2⟩ | ⟨dd, vs, e1, e2, e3⟩
          · rw [e1]; subst e2
            exact .exc0 upd_same
          · subst e1
            exact .excD upd_same (g2.f _ _ e2) (e3.mono g2.f)
        exact p _ _ _ _ (g.trans g2) w2 ((((s'.mono g2).set rx i).set rx j).un_at i none)
      · rename_i hx
        cases e
        refine ⟨false, ?_, (fun z => by cases z), fun _ => p cls d σ' F' ρ' H' g w' s' xr⟩
        rw [xr.1]; exact hmt _ _ hx
      · cases e
theorem zs_tryK {x n y : Str} {c : Value} {i j : Nat} {body : List Stmt} {np ny nn pos pos' pos2 : Pos} (hK : G.K = X.K) {mt : String → Option Bool} (hmt : ∀ k b, mt k = some b → PySem.W.exmOne G.K (.ref (G.cls k)) c = some b)
    (hs : X.stack = X.env :: X.outer) (hf : X.env.frame = some X.env.locals) (hex : X.ex = []) (hN : X.N.Nodup) (hi : X.N[i]? = some n) (hln : X.env.kindOf n = some .local) (hij : i < X.N.length) (hj : X.N[j]? = some y) (hly : Loc X.env.scope y)
    (hfy : X.fn y = true ∨ X.env.scope.names.lookup y = some .local) (hvn : Vis X.env.scope n) (hdn : (n == ("__debug__" : Str)) = false) (hcn : (n == ("__classdict__" : Str)) = false)
    (hc : Names X x c) (tk : Takes X W)
    (hsw : swapsWithSole [.Name y ny] (.Name n nn) pos2.line X.env = pure false) (hsp : swappedStores [.Name y ny] (.Name n nn) X.env = pure none) (hae : (assignEach [.Name y ny] X.env).map (·.2) = [assign (.Name y ny) X.env])
    (hb : ∀ (W : WX) (pn : List (Addr × Obj)) (xe : Value → Shared → Prop), Takes (X.tr pn xe) W → PassesOwn (model X.prog X.w) X.A X.env xe → PSs (X.tr pn xe) body (zS G W S)) :
    PS X (.Try body [.ExceptHandler (some (.Name x np)) (some n) [.Assign [.Name y ny] (.Name n nn) pos2] pos'] [] [] pos) (zS G W (sTryK mt i j S)) :=
  psImp (ps_try_keep hs hf hex hN hi hln hij hj hly hfy hvn hdn hcn hc tk hsw hsp hae hb) fun D σ H q => by
    rw [← hK]; exact try_reads hmt q

/-! ### isinstance, of anything -/
/-- what is asked of an own exception class -/
structure ExcZ (K : PySem.W.Frag) (C : Addr) : Prop where
  hcl : (PySem.W.clsIn K C).isSome = true
  hg : PySem.W.findIn K (.ref C) "__getattribute__" = some (some (.builtin "BaseException.__getattribute__"))
  hk : PySem.W.findIn K (.ref C) "__getattr__" = some none
  hs : PySem.W.subIn K (.ref C) (.type "BaseException") = some true
  ha : PySem.W.findIn K (.ref C) "__class__" = some (some (.builtin "object.__class__"))
  hn : PySem.W.specialIn K (.builtin "object.__class__") "__get__" = some (some (.builtin "getset_descriptor.__get__"))
  ht : PySem.W.takesIn K (.builtin "object.__class__") = some true
  hm : PySem.W.mroIn K C (.type "object") = some true
def rIsiX (K : PySem.W.Frag) : List V → Hp → VK → Prop := fun xs H Q => ∃ (a C : Addr) (d : Option Addr) (c : V) (u : Value) (b : Bool), xs = [.ref a, c] ∧ H a = some (ExA (.ref C) d a) ∧ (∀ dd, d = some dd → ∃ o, H dd = some o) ∧ ExcZ K C ∧ ClsV c u ∧ PySem.W.kitOne K (.ref C) u = some b ∧ Q (.bl b) H
theorem call_isiX : CallR X (.builtin "isinstance") (rIsiX X.K) := by
  intro pins s σ H xs us Q I r h
  obtain ⟨a, C, d, c, u, b, rfl, hA, hD, T, k, e, q⟩ := h
  obtain ⟨u1, u2, rfl, r1, r2⟩ := vals2 r
  have e2 := k.eq r2
  subst e2
  cases (show u1 = Value.ref a from r1)
  have ob : ObjOk X.prog X.w H s.heap a (ExA (.ref C) d a) := I.hok a _ hA
  obtain ⟨⟨oe, vs, h1, hz, hd⟩, _, _⟩ := ob
  obtain ⟨hz1, hz2⟩ := hz
  have nc : PySem.W.notCls oe = true := by unfold PySem.W.notCls; rw [hd]
  have J : ∃ od, PySem.W.InstAt s.heap a oe C od := by
    cases d with
    | none => exact ⟨none, h1, hz1, nc, by rw [hz2]; trivial⟩
    | some dd =>
      obtain ⟨o, ho⟩ := hD dd rfl
      obtain ⟨od, ho'⟩ := objOk_get (I.hok dd o ho)
      exact ⟨some od, h1, hz1, nc, by rw [hz2]; exact ho'⟩
  obtain ⟨od, J⟩ := J
  exact PySem.W.kia_one (PySem.W.kitx_exc (od := od) T.hcl T.hg T.hk T.hs T.ha T.hn T.ht T.hm) I.kIn J e (fun z => nomatch z) fun tk => ⟨.bl b, H, I.tok tk, rfl, q⟩
def rIsiZ (K : PySem.W.Frag) : List V → Hp → VK → Prop := fun xs H Q => rIsi K xs H Q ∨ rIsiX K xs H Q
theorem call_isiZ : CallR X (.builtin "isinstance") (rIsiZ X.K) := orC call_isi call_isiX
/-- z: what stands at hand for the classes whose answer is told -/
structure IsiOk (G : Gx) (cv : Value) (f : Tg → Option Bool) : Prop where
  hk : ∀ t k, f t = some k → PySem.W.kitOne G.K (tgV G t) cv = some k
  ho : ∀ c k, f (.o c) = some k → InsZ G.K (G.cls c)
  hx : ∀ c k, f (.x c) = some k → ExcZ G.K (G.cls c)
theorem isi_at (hK : G.K = X.K) {v : V} {sv : Sv} {t : Tg} {c : V} {cv : Value} {f : Tg → Option Bool} {k : Bool} {Q : VK} (hcv : ClsV c cv) (T : IsiOk G cv f) (w : Wf G F ρ μ H) (r : Rs G F ρ v sv) (h : tgOf μ sv = some t) (hf : f t = some k) (q : Q (.bl k) H) : rIsiZ X.K [v, c] H Q := by
  by_cases hx : ∃ c', t = .x c'
  · obtain ⟨c', rfl⟩ := hx
    have kk := T.hk _ _ hf
    have zz := T.hx _ _ hf
    rw [hK] at kk zz
    cases r with
    | d r =>
      cases r with
      | exc0 h1 => cases h; exact .inr ⟨_, _, _, c, cv, k, rfl, w.ex _ _ h1, (fun _ z => by cases z), zz, hcv, kk, q⟩
      | excD h1 h2 h3 => cases h; exact .inr ⟨_, _, _, c, cv, k, rfl, w.ex _ _ h1, fun _ z => by cases z; exact ⟨_, w.ex _ _ h2⟩, zz, hcv, kk, q⟩
      | _ => cases h
    | c hr =>
      unfold tgOf at h
      simp only at h
      split at h <;> cases h
  · have kk := T.hk _ _ hf
    rw [hK] at kk
    exact .inl ⟨v, c, tgV G t, cv, k, rfl, hcv, tg_at hK w r h (fun c' e' => by rw [← hK]; exact T.ho c' k (by rw [← e']; exact hf)) (fun c' e' => hx ⟨c', e'⟩), kk, q⟩
theorem z_isiZ (hK : G.K = X.K) {c : V} {cv : Value} {f : Tg → Option Bool} (hcv : ClsV c cv) (T : IsiOk G cv f)
    (hg : Gl X "isinstance") (hm : X.mg "isinstance" = none) (ha : PE X a (zE G W fa)) (hb : PE X b (tC c))
    (hs1 : starEach [a, b] X.env = (false, eval a X.env) :: starEach [b] X.env := by rfl) (hs2 : starEach [b] X.env = (false, eval b X.env) :: starEach [] X.env := by rfl) (hpl : (backTo pos (starEach [b] X.env)).any (·.1) = false := by rfl) :
    PE X (.Call (.Name "isinstance" p) [a, b] [] pos) (zE G W (fIsi f fa)) :=
  peImp (pe_callB call_isiZ hg hm (by decide +kernel) (pa_cons ha (pa_cons hb pa_nil hs2) hs1) (by decide) (by decide) hs1 hpl) fun σ H Q q => by
  obtain ⟨F, ρ, δ, μ, rr, w, s, e, p⟩ := q
  refine zstep w s e p fun sa μ1 x F1 ρ1 H1 g1 w1 s1 rx e1 p1 => ?_
  split at e1
  · rename_i t ht
    split at e1
    · rename_i k hk'
      cases e1
      exact isi_at hK hcv T w1 rx ht hk' (p1.ok w1 (.d (.bl k)))
    · cases e1
  · cases e1
/-- the answers for an own class: yes, no -/
def isO (yes no : List String) : Tg → Option Bool
  | .b n => if n ∈ seven then some false else none
  | .o c => if c ∈ yes then some true else if c ∈ no then some false else none
  | .x c => if c ∈ yes then some true else if c ∈ no then some false else none
end
end Z
namespace Z
open PySem PySem.Spec PyProof.Rows L2
theorem fm_nil {α : Type} {P : α → Prop} : ∀ p ∈ ([] : List α), P p := fun _ h => nomatch h
theorem fm_cons {α : Type} {P : α → Prop} {a : α} {l : List α} (h : P a) (t : ∀ p ∈ l, P p) : ∀ p ∈ a :: l, P p := fun p hp => by
  rcases List.mem_cons.mp hp with rfl | hp
  · exact h
  · exact t p hp
theorem lookup_mem' {α : Type} {c : String} {x : α} : ∀ {l : List (String × α)}, l.lookup c = some x → (c, x) ∈ l
  | [], h => by cases h
  | (d, y) :: r, h => by
    rw [List.lookup_cons] at h
    split at h
    · rename_i q
      cases h
      have : c = d := by simpa using q
      subst this
      exact List.mem_cons_self
    · exact List.mem_cons_of_mem _ (lookup_mem' h)
/-- isinstance by tables: built-in types, own classes, own exceptions -/
def isG (bt : String → Option Bool) (tO tX : List (String × Bool)) : Tg → Option Bool
  | .b n => bt n
  | .o c => tO.lookup c
  | .x c => tX.lookup c
/-- the name x stands for the class whose value is cv -/
structure IsiG (G : Gx) (mg : Str → Option Value) (x : Str) (v : V) (cv : Value) (f : Tg → Option Bool) : Prop where
  cl : ClsV v cv
  ok : IsiOk G cv f
theorem isiG_of {G : Gx} {cv : Value} {bt : String → Option Bool} {tO tX : List (String × Bool)} (hb : ∀ n k, bt n = some k → PySem.W.kitOne G.K (.type n) cv = some k)
    (hO : ∀ p ∈ tO, PySem.W.kitOne G.K (.ref (G.cls p.1)) cv = some p.2 ∧ InsZ G.K (G.cls p.1)) (hX : ∀ p ∈ tX, PySem.W.kitOne G.K (.ref (G.cls p.1)) cv = some p.2 ∧ ExcZ G.K (G.cls p.1)) : IsiOk G cv (isG bt tO tX) where
  hk := fun t k h => by
    cases t with
    | b n => exact hb n k h
    | o c => exact (hO _ (lookup_mem' h)).1
    | x c => exact (hX _ (lookup_mem' h)).1
  ho := fun c k h => (hO _ (lookup_mem' (show tO.lookup c = some k from h))).2
  hx := fun c k h => (hX _ (lookup_mem' (show tX.lookup c = some k from h))).2
/-- a built-in type is none of an own class -/
def noB (n : String) : Option Bool := if n ∈ seven then some false else none
def allTy (n : String) : Bool := match PySem.fastBuiltinMro n with
  | some l => l.all fun v => match v with
    | .type _ => true
    | _ => false
  | none => false
theorem seven_ty : seven.all allTy = true := by decide +kernel
theorem noB_ok {K : PySem.W.Frag} {C : Addr} (hc : PySem.W.isClsIn K C = true) (ht : PySem.W.typeIn K (.ref C) = some (.type "type")) : ∀ n k, noB n = some k → PySem.W.kitOne K (.type n) (.ref C) = some k := by
  intro n k h
  unfold noB at h
  split at h
  · rename_i hm
    cases h
    have h1 := List.all_eq_true.mp seven_ty n hm
    unfold allTy at h1
    split at h1
    · rename_i l hl
      have e2 : ((PySem.W.clsIn K C).isSome && PySem.W.typeIn K (.ref C) == some (.type "type")) = true := by
        have hc' : (PySem.W.clsIn K C).isSome = true := hc
        rw [hc', ht]; rfl
      show (if (Value.type n == Value.ref C) = true then some true else if ((PySem.W.clsIn K C).isSome && PySem.W.typeIn K (.ref C) == some (.type "type")) = true then PySem.W.subIn K (.type n) (.ref C) else none) = some false
      rw [if_neg (by simp), if_pos e2]
      show (PySem.fastBuiltinMro n).map (·.contains (.ref C)) = some false
      rw [hl]
      show some (l.contains (.ref C)) = some false
      congr 1
      rw [← Bool.not_eq_true]
      intro hh
      have hh2 : Value.ref C ∈ l := by simpa using hh
      have := List.all_eq_true.mp h1 _ hh2
      cases this
    · cases h1
  · cases h
/-- an own class against an own class -/
theorem kit_own {K : PySem.W.Frag} {E C : Addr} {b : Bool} (hc : PySem.W.isClsIn K C = true) (ht : PySem.W.typeIn K (.ref C) = some (.type "type")) (hcc : PySem.W.subIn K (.ref C) (.ref C) = some true) (hs : PySem.W.subIn K (.ref E) (.ref C) = some b) : PySem.W.kitOne K (.ref E) (.ref C) = some b := by
  have e2 : ((PySem.W.clsIn K C).isSome && PySem.W.typeIn K (.ref C) == some (.type "type")) = true := by
    have hc' : (PySem.W.clsIn K C).isSome = true := hc
    rw [hc', ht]; rfl
  show (if (Value.ref E == Value.ref C) = true then some true else if ((PySem.W.clsIn K C).isSome && PySem.W.typeIn K (.ref C) == some (.type "type")) = true then PySem.W.subIn K (.ref E) (.ref C) else none) = some b
  by_cases h : E = C
  · subst h
    rw [if_pos (by simp), ← hcc, hs]
  · rw [if_neg (by simpa using h), if_pos e2, hs]
/-- an own class against a built-in one -/
theorem kit_bty {K : PySem.W.Frag} {E : Addr} {T : String} {b : Bool} (hm : PySem.W.kitMeta T = true) (hs : PySem.W.subIn K (.ref E) (.type T) = some b) : PySem.W.kitOne K (.ref E) (.type T) = some b := by
  show (if (Value.ref E == Value.type T) = true then some true else if PySem.W.kitMeta T = true then PySem.W.subIn K (.ref E) (.type T) else none) = some b
  rw [if_neg (by simp), if_pos hm, hs]
/-- built-in types against a built-in one, by its own table -/
def btB (T : String) (n : String) : Option Bool := if n ∈ seven then kitB n T else none
theorem btB_ok {K : PySem.W.Frag} {T : String} : ∀ n k, btB T n = some k → PySem.W.kitOne K (.type n) (.type T) = some k := by
  intro n k h
  unfold btB at h
  split at h
  · exact kit_ty h
  · cases h
/-- except C: what stands at hand -/
structure TryG (G : Gx) (mg : Str → Option Value) (x : Str) (C : Addr) (t : List (String × Bool)) : Prop where
  nm : mg x = some (.ref C)
  ok : ∀ p ∈ t, PySem.W.exmOne G.K (.ref (G.cls p.1)) (.ref C) = some p.2
theorem tryG_mt {G : Gx} {mg : Str → Option Value} {x : Str} {C : Addr} {t : List (String × Bool)} (h : TryG G mg x C t) : ∀ k b, t.lookup k = some b → PySem.W.exmOne G.K (.ref (G.cls k)) (.ref C) = some b := fun k b e => h.ok _ (lookup_mem' e)
/-- raise C('..') -/
structure RzG (G : Gx) (mg : Str → Option Value) (x : Str) (c : String) : Prop where
  nm : mg x = some (.ref (G.cls c))
  ex : PySem.W.excIn G.K (G.cls c) [.type "ValueError", .type "Exception", .type "BaseException", .type "object"] "ValueError.__new__" = true
  kp : PySem.W.keepIn G.K (.ref (G.cls c)) = true
  sb : PySem.W.subIn G.K (.ref (G.cls c)) (.type "BaseException") = some true
  ty : PySem.W.typeIn G.K (.ref (G.cls c)) = some (.type "type")
theorem zs_rz {G : Gx} {X : Cx} {W : WX} {x m : Str} {c : String} {j : Nat} {p p2 pos pos2 : Pos} (r : RzG G X.mg x c) (hK : G.K = X.K) (hc : X.calm = true) (tk : Takes X W) (hg : Gl X x) (hdb : (x == ("__debug__" : Str)) = false := by decide) :
    PS X (.Raise (some (.Call (.Name x p) [.Constant (.str m) j p2] [] pos)) none pos2) (zS G W (sRaise c)) := by
  obtain ⟨h1, h2, h3, h4, h5⟩ := r
  rw [hK] at h2 h3 h4 h5
  exact zs_raise hc tk (pmk_own PySem.F.excBase_ValueError h2 h1 h3 (raises_own h4 h5) hg hdb) rfl
/-- the law's own promise, whatever the classes' names -/
def spL (K : PySem.W.Frag) (fn : Fn) : Sp := fun vs H Q E => ∀ G : Gx, G.K = K → spF G fn vs H Q E
theorem fnok_L {P : Program} {w : World} {G : Gx} {mg : Str → Option Value} {base : Heap} {CX : CXT} {k : Nat} {f : Addr} {fd : FuncData} {ps : List Str} {fn : Fn} (h : FnOk P w G.K mg base CX k f fd ps (spF G fn)) : FnOk P w G.K mg base CX k f fd ps (spL G.K fn) where
  len := fun vs H Q E q => h.len vs H Q E (q G rfl)
  run := fun A outer s H args us vs Q E hr e b r q => h.run A outer s H args us vs Q E hr e b r (q G rfl)
end Z

namespace Z
open PySem PySem.Spec PyProof.Rows L2
theorem fnok_none {P : Program} {w : World} {G : Gx} {mg : Str → Option Value} {base : Heap} {CX : CXT} {k : Nat} {f : Addr} {fd : FuncData} {ps : List Str} : FnOk P w G.K mg base CX k f fd ps (spF G fun _ _ => none) where
  len := fun vs H Q E q => by obtain ⟨_, _, _, _, _, _, _, e, _⟩ := q; cases e
  run := fun A outer s H args us vs Q E hr e b r q => by obtain ⟨_, _, _, _, _, _, _, e, _⟩ := q; cases e
end Z

namespace Z
open PySem PySem.Spec PyProof.Rows L2
theorem ok_defS {P : Program} {w : World} {mg : Str → Option Value} {base : Heap} {G : Gx} {x qual : Str} {st : Stmt} {f : Addr} {fd : FuncData} {N ps : List Str} {k : Nat} {S : Sz} {sc : Scope} (hS : defScope st = sc) (Fu : Fun G.K x qual st f fd) (Sc : FnScope N ps sc)
    (body : ∀ (cdv : Value) (A : Around) (outer : List Env) (s : Shared) (H : Hp) (E : XK), Room k (A.deeper (envOfC qual sc s.heap.objs.size f cdv)) →
      PSs (cxOf (L2.CX P w) P w G.K mg base N qual sc f cdv A outer s H E) (defBody st) (zS G (fun c d _ H => E c d H) S)) :
    FnOk P w G.K mg base (L2.CX P w) (k + 1) f fd ps (spF G (runB ps.length N.length S)) := by
  subst hS; exact ok_def Fu Sc body
end Z
namespace Z
open PySem PySem.Spec PyProof.Rows L2
/-! ## the weakest conditions of the walks with a check, and of exceptions -/
@[simp] theorem forLW_true (g : Tz) (S : Sz) : ∀ (xs : List Sv) (δ : Dl) (μ : Mu), forLW (fun _ => True) g S xs δ μ = forL g S xs δ μ
  | [], δ, μ => by unfold forLW forL; rw [if_pos trivial]
  | x :: xs, δ, μ => by
    unfold forLW forL; rw [if_pos trivial]
    cases g x δ with
    | none => rfl
    | some δ1 =>
      dsimp only
      generalize S δ1 μ = r
      cases r with
      | none => rfl
      | some q =>
        obtain ⟨f, δ2, μ2⟩ := q
        cases f with
        | nx => exact forLW_true g S xs δ2 μ2
        | ct => exact forLW_true g S xs δ2 μ2
        | bk => rfl
        | rt v => rfl
        | ex v => rfl
@[simp] theorem forW_wk (fi : Fz (List Sv)) (g : Tz) (S : Sz) (δ : Dl) (μ : Mu) : sForW (fWk fi) g S δ μ = sFor fi g S δ μ := by
  unfold sForW sFor fWk
  cases h : fi δ μ with
  | none => rfl
  | some q =>
    obtain ⟨e, μ1⟩ := q
    cases e with
    | error x => rfl
    | ok l => simp only [Rz.bind_ok, eS_ok]; exact forLW_true ..
@[simp] theorem Es_forWK {fi : Fz Wk} {g : Tz} {S : Sz} {δ : Dl} {μ : Mu} {R : Fl → Dl → Mu → Prop} : Es (sForW fi g S δ μ) R = Ev (fi δ μ) (fun e μ => okc e (fun k => Es (forLW k.chk g S k.items δ μ) R) (fun x => R (.ex x) δ μ)) := by
  show Es (eS _ _ _) _ = _
  rw [Es_eS]
theorem Es_forLW {ck : Chk} {g : Tz} {S : Sz} {R : Fl → Dl → Mu → Prop} (I : Nat → Dl → Mu → Prop) (hk : ∀ i δ μ, I i δ μ → ck μ) : ∀ (xs : List Sv) (j : Nat) (δ : Dl) (μ : Mu), I j δ μ →
    (∀ (i : Nat) (x : Sv) (δ : Dl) (μ : Mu), xs[i]? = some x → I (j + i) δ μ → someD (g x δ) fun δ1 => Es (S δ1 μ) fun f δ2 μ2 => match f with
      | .nx => I (j + i + 1) δ2 μ2
      | .ct => I (j + i + 1) δ2 μ2
      | .bk => R .nx δ2 μ2
      | f => R f δ2 μ2) →
    (∀ δ μ, I (j + xs.length) δ μ → R .nx δ μ) → Es (forLW ck g S xs δ μ) R
  | [], j, δ, μ, h0, _, he => by
    unfold forLW
    rw [if_pos (hk _ _ _ h0), Es_some]; exact he δ μ h0
  | x :: xs, j, δ, μ, h0, hs, he => by
    have h := hs 0 x δ μ rfl h0
    unfold forLW
    rw [if_pos (hk _ _ _ h0)]
    cases hg : g x δ with
    | none => rw [hg] at h; exact h.elim
    | some δ1 =>
      rw [hg] at h
      simp only [someD_s] at h
      obtain ⟨f, δ2, μ2, e, p⟩ := h
      simp only [e]
      have st : ∀ (i : Nat) (y : Sv) (δ : Dl) (μ : Mu), xs[i]? = some y → I (j + 1 + i) δ μ → someD (g y δ) fun δ1 => Es (S δ1 μ) fun f δ2 μ2 => match f with
          | .nx => I (j + 1 + i + 1) δ2 μ2
          | .ct => I (j + 1 + i + 1) δ2 μ2
          | .bk => R .nx δ2 μ2
          | f => R f δ2 μ2 := by
        intro i y δ μ e1 h1
        have e3 : j + 1 + i = j + (i + 1) := by omega
        rw [e3] at h1 ⊢
        exact hs (i + 1) y δ μ e1 h1
      have en : ∀ δ μ, I (j + 1 + xs.length) δ μ → R .nx δ μ := fun δ μ h => he δ μ (by
        have e3 : j + (x :: xs).length = j + 1 + xs.length := by simp only [List.length_cons]; omega
        rw [e3]; exact h)
      cases f with
      | nx => exact Es_forLW I hk xs (j + 1) δ2 μ2 p st en
      | ct => exact Es_forLW I hk xs (j + 1) δ2 μ2 p st en
      | bk => rw [Es_some]; exact p
      | rt v => rw [Es_some]; exact p
      | ex v => rw [Es_some]; exact p
/-- what a walk goes over, known -/
theorem Es_forW {fi : Fz Wk} {g : Tz} {S : Sz} {δ : Dl} {μ μ1 : Mu} {k : Wk} {R : Fl → Dl → Mu → Prop} (hi : fi δ μ = some (.ok k, μ1)) (h : Es (forLW k.chk g S k.items δ μ1) R) : Es (sForW fi g S δ μ) R := by
  rw [Es_forWK, hi, Ev_some]; exact h
theorem Es_forWt {fi : Fz Wk} {g : Tz} {S : Sz} {δ : Dl} {μ μ1 : Mu} {items : List Sv} {R : Fl → Dl → Mu → Prop} (hi : fi δ μ = some (.ok ⟨items, fun _ => True⟩, μ1)) (h : Es (forL g S items δ μ1) R) : Es (sForW fi g S δ μ) R :=
  Es_forW hi (by rw [forLW_true]; exact h)
theorem lcLW_true (g : Tz) (c : Fz Bool) (e : Fz Sv) (n : Nat) (δ : Dl) : ∀ (xs : List Sv) (μ : Mu), lcLW (fun _ => True) g c e n δ xs μ = lcL g c e n δ xs μ
  | [], μ => by unfold lcLW lcL; rw [if_pos trivial]
  | x :: xs, μ => by
    unfold lcLW lcL; rw [if_pos trivial]
    have ih := lcLW_true g c e n δ xs
    cases g x δ with
    | none => rfl
    | some δ1 =>
      dsimp only
      generalize c δ1 μ = r
      cases r with
      | none => rfl
      | some q =>
        obtain ⟨r, μ1⟩ := q
        cases r with
        | error x => rfl
        | ok b =>
          cases b with
          | false => exact ih _
          | true =>
            dsimp only
            generalize e δ1 μ1 = r
            cases r with
            | none => rfl
            | some q =>
              obtain ⟨r, μ2⟩ := q
              cases r with
              | error x => rfl
              | ok y =>
                dsimp only
                generalize μ2[n]? = r
                cases r with
                | none => rfl
                | some cc =>
                  cases cc with
                  | lst acc =>
                    dsimp only
                    rw [ih]
                  | dct kvs => rfl
                  | ins c fs => rfl
                  | fz => rfl
                  | dtt _ => rfl
@[simp] theorem lcW_wk (fi : Fz (List Sv)) (vs : List Nat) (g : Tz) (c : Fz Bool) (e : Fz Sv) : fLcW (fWk fi) vs g c e = fLcC fi vs g c e := by
  funext δ μ
  unfold fLcW fLcC fWk
  cases h : fi δ μ with
  | none => rfl
  | some q =>
    obtain ⟨x, μ1⟩ := q
    cases x with
    | error x => rfl
    | ok l => simp only [Rz.bind_ok, lcLW_true] <;> rfl
theorem lcW_from {δ : Dl} {μ μ1 : Mu} {fi : Fz Wk} {vs : List Nat} {g : Tz} {c : Fz Bool} {e : Fz Sv} {items : List Sv} (hi : fi δ μ = some (.ok ⟨items, fun _ => True⟩, μ1)) : fLcW fi vs g c e δ μ = fLcC (fun _ m => some (.ok items, m)) vs g c e δ μ1 := by
  show Rz.bind (fi δ μ) _ = Rz.bind (some (.ok items, μ1)) _
  rw [hi]; simp only [Rz.bind_ok, lcLW_true] <;> rfl
/-- the plain comprehension over trees, made a tree -/
theorem lcWF {δ : Dl} {μ : Mu} {fi : Fz Wk} {vs : List Nat} {g : Tz} {c : Fz Bool} {e : Fz Sv} (items : List Sv) (hi : fi δ μ = some (.ok ⟨items, fun _ => True⟩, μ)) (hn : items.length ≤ 16777216) (p : Sv → Bool) (f : Sv → D)
    (hs : ∀ (x : Sv) (acc : List D), x ∈ items → ∃ δ1, g x (wipeZ δ vs) = some δ1 ∧ c δ1 (μ ++ [.lst (acc.map Sv.d)]) = some (.ok (p x), μ ++ [.lst (acc.map Sv.d)]) ∧ (p x = true → e δ1 (μ ++ [.lst (acc.map Sv.d)]) = some (.ok (.d (f x)), μ ++ [.lst (acc.map Sv.d)]))) :
    fFrz (fLcW fi vs g c e) δ μ = some (.ok (.d (.lst ((items.filter p).map f))), μ) := by
  have := lcF_pure (δ := δ) (μ := μ) (fi := fun _ m => some (.ok items, m)) (vs := vs) (g := g) (c := c) (e := e) items rfl hn p f hs
  show Rz.bind _ _ = _
  rw [lcW_from hi]; exact this
/-- .. without a test, the items' values by a function -/
theorem lcWm {α : Type} {δ : Dl} {μ : Mu} {fi : Fz Wk} {vs : List Nat} {g : Tz} {e : Fz Sv} (xs : List α) (it : α → Sv) (hi : fi δ μ = some (.ok ⟨xs.map it, fun _ => True⟩, μ)) (hn : xs.length ≤ 16777216) (f : α → D)
    (hs : ∀ (x : α) (μ' : Mu), x ∈ xs → ∃ δ1, g (it x) (wipeZ δ vs) = some δ1 ∧ e δ1 μ' = some (.ok (.d (f x)), μ')) :
    fFrz (fLcW fi vs g fYes e) δ μ = some (.ok (.d (.lst (xs.map f))), μ) := by
  have run : ∀ (ys : List α) (acc : List D), (∀ y ∈ ys, y ∈ xs) → acc.length + ys.length ≤ xs.length → lcL g fYes e μ.length (wipeZ δ vs) (ys.map it) (μ ++ [.lst (acc.map Sv.d)]) = some (μ ++ [.lst ((acc ++ ys.map f).map Sv.d)]) := by
    intro ys
    induction ys with
    | nil => intro acc _ _; simp [lcL]
    | cons y ys ih =>
      intro acc hm hl
      simp only [List.length_cons] at hl
      obtain ⟨δ1, e1, e2⟩ := hs y (μ ++ [.lst (acc.map Sv.d)]) (hm y (by simp))
      have q1 : (μ ++ [Cell.lst (acc.map Sv.d)])[μ.length]? = some (.lst (acc.map Sv.d)) := by simp
      have q2 : (μ ++ [Cell.lst (acc.map Sv.d)]).set μ.length (.lst (acc.map Sv.d ++ [.d (f y)])) = μ ++ [.lst ((acc ++ [f y]).map Sv.d)] := by simp
      simp only [List.map_cons, lcL, e1, fYes_eq, e2, q1]
      rw [if_pos (by simp; omega), q2, ih (acc ++ [f y]) (fun z hz => hm z (by simp [hz])) (by simp; omega)]
      simp
  have r0 := run xs [] (fun _ h => h) (by simp)
  show Rz.bind _ _ = _
  rw [lcW_from hi]
  show Rz.bind (Rz.bind (some (.ok (xs.map it), μ)) _) _ = _
  simp only [Rz.bind_ok]
  have : (μ ++ [Cell.lst []]) = μ ++ [.lst (([] : List D).map Sv.d)] := rfl
  rw [this, r0]
  have q1 : (μ ++ [Cell.lst (([] ++ xs.map f).map Sv.d)])[μ.length]? = some (.lst (([] ++ xs.map f).map Sv.d)) := by simp
  have q2 : (μ ++ [Cell.lst (([] ++ xs.map f).map Sv.d)]).set μ.length .fz = μ ++ [.fz] := by simp
  simp only [Rz.bind_ok, frzV, q1, toDs_map, q2]
  rw [gc_app]; simp
/- with a check: what is walked stays -/
theorem lcWc {δ : Dl} {μ : Mu} {fi : Fz Wk} {vs : List Nat} {g : Tz} {c : Fz Bool} {e : Fz Sv} (k : Wk) (hi : fi δ μ = some (.ok k, μ)) (hk : ∀ t, k.chk (μ ++ t)) (hn : k.items.length ≤ 16777216) (p : Sv → Bool) (f : Sv → D)
    (hs : ∀ (x : Sv) (acc : List D), x ∈ k.items → ∃ δ1, g x (wipeZ δ vs) = some δ1 ∧ c δ1 (μ ++ [.lst (acc.map Sv.d)]) = some (.ok (p x), μ ++ [.lst (acc.map Sv.d)]) ∧ (p x = true → e δ1 (μ ++ [.lst (acc.map Sv.d)]) = some (.ok (.d (f x)), μ ++ [.lst (acc.map Sv.d)]))) :
    fFrz (fLcW fi vs g c e) δ μ = some (.ok (.d (.lst ((k.items.filter p).map f))), μ) := by
  have run : ∀ (ys : List Sv) (acc : List D), (∀ y ∈ ys, y ∈ k.items) → acc.length + ys.length ≤ k.items.length → lcLW k.chk g c e μ.length (wipeZ δ vs) ys (μ ++ [.lst (acc.map Sv.d)]) = some (μ ++ [.lst ((acc ++ (ys.filter p).map f).map Sv.d)]) := by
    intro ys
    induction ys with
    | nil => intro acc _ _; unfold lcLW; rw [if_pos (hk _)]; simp
    | cons y ys ih =>
      intro acc hm hl
      simp only [List.length_cons] at hl
      obtain ⟨δ1, e1, e2, e3⟩ := hs y acc (hm y (by simp))
      unfold lcLW; rw [if_pos (hk _)]
      cases hp : p y with
      | false =>
        rw [hp] at e2
        simp only [e1, e2]
        rw [ih acc (fun z hz => hm z (by simp [hz])) (by omega)]
        simp [hp]
      | true =>
        rw [hp] at e2
        have q1 : (μ ++ [Cell.lst (acc.map Sv.d)])[μ.length]? = some (.lst (acc.map Sv.d)) := by simp
        have q2 : (μ ++ [Cell.lst (acc.map Sv.d)]).set μ.length (.lst (acc.map Sv.d ++ [.d (f y)])) = μ ++ [.lst ((acc ++ [f y]).map Sv.d)] := by simp
        simp only [e1, e2, e3 hp, q1]
        rw [if_pos (by simp; omega), q2, ih (acc ++ [f y]) (fun z hz => hm z (by simp [hz])) (by simp; omega)]
        simp [hp]
  have r0 := run k.items [] (fun _ h => h) (by simp)
  have e2 : fLcW fi vs g c e δ μ = some (.ok (.c μ.length), μ ++ [.lst (((k.items.filter p).map f).map Sv.d)]) := by
    show Rz.bind (fi δ μ) _ = _
    rw [hi]; simp only [Rz.bind_ok]
    have : (μ ++ [Cell.lst []]) = μ ++ [.lst (([] : List D).map Sv.d)] := rfl
    rw [this, r0]; simp
  show Rz.bind _ _ = _
  rw [e2]; simp only [Rz.bind_ok]
  have q1 : (μ ++ [Cell.lst (((k.items.filter p).map f).map Sv.d)])[μ.length]? = some (.lst (((k.items.filter p).map f).map Sv.d)) := by simp
  have q2 : (μ ++ [Cell.lst (((k.items.filter p).map f).map Sv.d)]).set μ.length .fz = μ ++ [.fz] := by simp
  simp only [frzV, q1, toDs_map, q2]
  rw [gc_app]
section
variable {P : Except Exn Wk → Mu → Prop} {δ : Dl} {μ : Mu}
def seqWO (a : Sv) (μ : Mu) : Rz Wk := match a with
  | .d (.tup l) => some (.ok ⟨l.map Sv.d, fun _ => True⟩, μ)
  | .d (.str s) => some (.ok ⟨s.map fun c => .d (.str [c]), fun _ => True⟩, μ)
  | a => match lstC a μ with
    | some k => some (.ok k, μ)
    | none => none
def enumWO (as : List Sv) (μ : Mu) : Rz Wk := match as with
  | [v] => match lstC v μ with
    | some k => match toDs k.items with
      | some ds => some (.ok ⟨enI 0 ds, k.chk⟩, μ)
      | none => none
    | none => none
  | _ => none
def zipWO (as : List Sv) (μ : Mu) : Rz Wk := match as with
  | [u, v] => match lstC u μ, lstC v μ with
    | some k, some m => match toDs k.items, toDs m.items with
      | some ds, some es => some (.ok ⟨zipI ds es, fun μ => k.chk μ ∧ m.chk μ⟩, μ)
      | _, _ => none
    | _, _ => none
  | _ => none
@[simp] theorem Ev_wk (f : Fz (List Sv)) : Ev (fWk f δ μ) P = Ev (f δ μ) (fun e μ => okc e (fun l => P (.ok ⟨l, fun _ => True⟩) μ) (fun x => P (.error x) μ)) := by
  show Ev (Rz.bind _ _) _ = _
  rw [Ev_bind]; refine Ev_ext fun e μ => ?_; cases e <;> simp
@[simp] theorem Ev_seqW (fa : Fz Sv) : Ev (fSeqW fa δ μ) P = Ev (fa δ μ) (fun e μ => okc e (fun a => Ev (seqWO a μ) P) (fun x => P (.error x) μ)) := by
  show Ev (Rz.bind _ (fun a μ => seqWO a μ)) _ = _
  rw [Ev_bind]
@[simp] theorem Ev_enumW (fr : Fz (List Sv)) : Ev (fEnumW fr δ μ) P = Ev (fr δ μ) (fun e μ => okc e (fun a => Ev (enumWO a μ) P) (fun x => P (.error x) μ)) := by
  show Ev (Rz.bind _ (fun a μ => enumWO a μ)) _ = _
  rw [Ev_bind]
@[simp] theorem Ev_zipW (fr : Fz (List Sv)) : Ev (fZipW fr δ μ) P = Ev (fr δ μ) (fun e μ => okc e (fun a => Ev (zipWO a μ) P) (fun x => P (.error x) μ)) := by
  show Ev (Rz.bind _ (fun a μ => zipWO a μ)) _ = _
  rw [Ev_bind]
@[simp] theorem seqWO_l (l : List D) : seqWO (.d (.lst l)) μ = some (.ok ⟨l.map Sv.d, fun _ => True⟩, μ) := rfl
@[simp] theorem seqWO_t (l : List D) : seqWO (.d (.tup l)) μ = some (.ok ⟨l.map Sv.d, fun _ => True⟩, μ) := rfl
@[simp] theorem seqWO_s (l : List Nat) : seqWO (.d (.str l)) μ = some (.ok ⟨l.map fun c => .d (.str [c]), fun _ => True⟩, μ) := rfl
theorem seqWO_c {n : Nat} {xs : List Sv} (h : μ[n]? = some (.lst xs)) : seqWO (.c n) μ = some (.ok ⟨xs, fun μ => μ[n]? = some (.lst xs)⟩, μ) := by simp [seqWO, lstC, h]
@[simp] theorem enumWO_l (l : List D) : enumWO [.d (.lst l)] μ = some (.ok ⟨enI 0 l, fun _ => True⟩, μ) := by
  show (match toDs (l.map Sv.d) with
      | some ds => some (Except.ok (⟨enI 0 ds, fun _ => True⟩ : Wk), μ)
      | none => none) = _
  rw [toDs_map]
theorem enumWO_c {n : Nat} {xs : List D} (h : μ[n]? = some (.lst (xs.map Sv.d))) : enumWO [.c n] μ = some (.ok ⟨enI 0 xs, fun μ => μ[n]? = some (.lst (xs.map Sv.d))⟩, μ) := by simp [enumWO, lstC, h, toDs_map]
@[simp] theorem zipWO_ll (l m : List D) : zipWO [.d (.lst l), .d (.lst m)] μ = some (.ok ⟨zipI l m, fun _ => True⟩, μ) := by
  show (match toDs (l.map Sv.d), toDs (m.map Sv.d) with
      | some ds, some es => some (Except.ok (⟨zipI ds es, fun _ => True ∧ True⟩ : Wk), μ)
      | _, _ => none) = _
  rw [toDs_map, toDs_map]; simp
theorem zipWO_cl {n : Nat} {xs m : List D} (h : μ[n]? = some (.lst (xs.map Sv.d))) : zipWO [.c n, .d (.lst m)] μ = some (.ok ⟨zipI xs m, fun μ => μ[n]? = some (.lst (xs.map Sv.d))⟩, μ) := by
  simp [zipWO, lstC, h, toDs_map]
end
section
variable {R : Fl → Dl → Mu → Prop} {δ : Dl} {μ : Mu} {P : Except Exn Sv → Mu → Prop}
def optc (o : Option Bool) (k : Bool → Prop) (_ : Ph k := phm k) : Prop := match o with
  | some b => k b
  | none => False
@[simp ↓, simp] theorem optc_s (b : Bool) (k : Bool → Prop) : optc (some b) k = k b := rfl
@[simp ↓, simp] theorem tyc_some (tab : Tg → Option Bool) (t : Tg) (k : Bool → Prop) : tyc tab (some t) k = optc (tab t) k := by
  simp only [tyc, optc, Option.bind_some] <;> (cases tab t <;> rfl)
@[simp] theorem tgOf_exc (c : String) (fs : List (String × D)) (μ : Mu) : tgOf μ (.d (.exc c fs)) = some (.x c) := rfl
@[simp] theorem tgOf_ins (c : String) (fs : List (String × D)) (μ : Mu) : tgOf μ (.d (.ins c fs)) = some (.o c) := rfl
@[simp] theorem sRaise_eq (c : String) : sRaise c δ μ = some (.ex ⟨c, []⟩, δ, μ) := rfl
/-- behind the body of a try -/
def tryc (mt : String → Option Bool) (i j : Nat) (R : Fl → Dl → Mu → Prop) (f : Fl) (δ : Dl) (μ : Mu) : Prop := match f with
  | .ex x => match mt x.c with
    | some true => R .nx (((δ.set i (some (.d (.exc x.c x.fs)))).set j (some (.d (.exc x.c x.fs)))).set i none) μ
    | some false => R (.ex x) δ μ
    | none => False
  | f => R f δ μ
@[simp] theorem Es_tryK (mt : String → Option Bool) (i j : Nat) (S : Sz) : Es (sTryK mt i j S δ μ) R = Es (S δ μ) (tryc mt i j R) := by
  apply propext
  unfold sTryK
  constructor
  · rintro ⟨f, δ1, μ1, h, p⟩
    match e : S δ μ, h with
    | some (.ex x, δ2, μ2), h =>
      refine ⟨_, _, _, rfl, ?_⟩
      unfold tryc
      match hm : mt x.c, h with
      | some true, h => simp only [hm] at h ⊢; cases h; exact p
      | some false, h => simp only [hm] at h ⊢; cases h; exact p
      | none, h => simp only [hm] at h; cases h
    | some (.nx, δ2, μ2), h => cases h; exact ⟨_, _, _, rfl, p⟩
    | some (.bk, δ2, μ2), h => cases h; exact ⟨_, _, _, rfl, p⟩
    | some (.ct, δ2, μ2), h => cases h; exact ⟨_, _, _, rfl, p⟩
    | some (.rt v, δ2, μ2), h => cases h; exact ⟨_, _, _, rfl, p⟩
    | none, h => cases h
  · rintro ⟨f, δ1, μ1, h, p⟩
    rw [h]
    match f, p with
    | .ex x, p =>
      unfold tryc at p
      match hm : mt x.c, p with
      | some true, p => simp only [hm] at p ⊢; exact ⟨_, _, _, rfl, p⟩
      | some false, p => simp only [hm] at p ⊢; exact ⟨_, _, _, rfl, p⟩
      | none, p => simp only [hm] at p
    | .nx, p => exact ⟨_, _, _, rfl, p⟩
    | .bk, p => exact ⟨_, _, _, rfl, p⟩
    | .ct, p => exact ⟨_, _, _, rfl, p⟩
    | .rt v, p => exact ⟨_, _, _, rfl, p⟩
@[simp] theorem tryc_nx (mt : String → Option Bool) (i j : Nat) : tryc mt i j R .nx δ μ = R .nx δ μ := rfl
@[simp] theorem tryc_rt (mt : String → Option Bool) (i j : Nat) (v : Sv) : tryc mt i j R (.rt v) δ μ = R (.rt v) δ μ := rfl
@[simp] theorem tryc_bk (mt : String → Option Bool) (i j : Nat) : tryc mt i j R .bk δ μ = R .bk δ μ := rfl
@[simp] theorem tryc_ct (mt : String → Option Bool) (i j : Nat) : tryc mt i j R .ct δ μ = R .ct δ μ := rfl
theorem tryc_ex {mt : String → Option Bool} {i j : Nat} {x : Exn} (h : mt x.c = some true) : tryc mt i j R (.ex x) δ μ = R .nx (((δ.set i (some (.d (.exc x.c x.fs)))).set j (some (.d (.exc x.c x.fs)))).set i none) μ := by
  unfold tryc; simp only [h]
end
end Z
namespace Z
open PySem PySem.Spec PyProof.Rows L2
/-! ### own classes: fields, making -/
/-- the classes with their fields, the exceptions with theirs -/
structure Ct where
  ins : List (String × List String)
  exc : List (String × List String)
structure InsC (K : PySem.W.Frag) (C : Addr) (fs : List String) : Prop where
  cl : Cls K C
  ha : PySem.W.findIn K (.ref C) "__class__" = some (some (.builtin "object.__class__"))
  hn : PySem.W.specialIn K (.builtin "object.__class__") "__get__" = some (some (.builtin "getset_descriptor.__get__"))
  ht : PySem.W.takesIn K (.builtin "object.__class__") = some true
  hm : PySem.W.mroIn K C (.type "object") = some true
  nf : ∀ f ∈ fs, NoAttr K C (Str.ofString f)
structure ExcF (K : PySem.W.Frag) (C : Addr) (fs : List String) : Prop where
  ex : ExcZ K C
  hd : PySem.W.hasDictIn K C = true
  nf : ∀ f ∈ fs, PySem.W.findIn K (.ref C) (Str.ofString f) = some none
structure CtOk (G : Gx) (ct : Ct) : Prop where
  ins : ∀ p ∈ ct.ins, InsC G.K (G.cls p.1) p.2
  exc : ∀ p ∈ ct.exc, ExcF G.K (G.cls p.1) p.2
theorem lookup_mem {α : Type} {c : String} {x : α} : ∀ {l : List (String × α)}, l.lookup c = some x → (c, x) ∈ l
  | [], h => by cases h
  | (d, y) :: r, h => by
    rw [List.lookup_cons] at h
    split at h
    · rename_i q
      cases h
      have : c = d := by simpa using q
      subst this
      exact List.mem_cons_self
    · exact List.mem_cons_of_mem _ (lookup_mem h)
theorem InsC.z {K : PySem.W.Frag} {C : Addr} {fs : List String} (h : InsC K C fs) : InsZ K C := ⟨fun H a dx vs e => .ins e h.cl h.ha h.hn h.ht h.hm⟩
/-- the class of a thing has the field -/
def hasF (l : List (String × List String)) (c f : String) : Bool := match l.lookup c with
  | some fs => fs.contains f
  | none => false
theorem hasF_mem {l : List (String × List String)} {c f : String} (h : hasF l c f = true) : ∃ fs, (c, fs) ∈ l ∧ f ∈ fs := by
  unfold hasF at h
  split at h
  · rename_i fs q
    exact ⟨fs, lookup_mem q, by simpa using h⟩
  · cases h
def fldO (ct : Ct) (f : String) (o : Sv) (μ : Mu) : Rz Sv := match o with
  | .d (.ins c fs) => if hasF ct.ins c f = true then match fs.lookup f with
    | some x => okz x μ
    | none => none else none
  | .d (.exc c fs) => if hasF ct.exc c f = true then match fs.lookup f with
    | some x => okz x μ
    | none => none else none
  | .c n => match μ[n]? with
    | some (.ins c fs) => if hasF ct.ins c f = true then match fs.lookup f with
      | some x => some (.ok x, μ)
      | none => none else none
    | _ => none
  | _ => none
def fFld (ct : Ct) (f : String) (fo : Fz Sv) : Fz Sv := fun δ μ => (fo δ μ).bind fun o μ => fldO ct f o μ
section
variable {G : Gx} {X : Cx} {W : WX} {F : Hp} {ρ : List Addr} {μ : Mu} {H : Hp} {a b e o : Expr} {es : List Expr} {fa fo : Fz Sv} {fr : Fz (List Sv)} {pos p p2 apos : Pos} {x f : Str} {S : Sz} {ct : Ct}
theorem rpF_look {m : String} {y : D} : ∀ {fs : List (Str × V)} {gs : List (String × D)}, RpF G F fs gs → gs.lookup m = some y → ∃ v, fs.lookup (Str.ofString m) = some v ∧ Rp G F v y
  | _, _, .nil, h => by cases h
  | _, _, .cons (x := k) (v := v) h r, e => by
    rw [List.lookup_cons] at e
    rw [List.lookup_cons]
    split at e
    · rename_i q
      cases e
      have : m = k := by simpa using q
      subst this
      exact ⟨v, by simp, h⟩
    · rename_i q
      have ne : (Str.ofString m == Str.ofString k) = false := by
        cases z : (Str.ofString m == Str.ofString k) with
        | false => rfl
        | true =>
          have := ofString_inj (eq_of_beq z)
          subst this
          simp at q
      rw [ne]
      exact rpF_look r e
theorem rsF_look {m : String} {y : Sv} : ∀ {fs : List (Str × V)} {gs : List (String × Sv)}, RsF G F ρ fs gs → gs.lookup m = some y → ∃ v, fs.lookup (Str.ofString m) = some v ∧ Rs G F ρ v y
  | _, _, .nil, h => by cases h
  | _, _, .cons (k := k) (v := v) h r, e => by
    rw [List.lookup_cons] at e
    rw [List.lookup_cons]
    split at e
    · rename_i q
      cases e
      have : m = k := by simpa using q
      subst this
      exact ⟨v, by simp, h⟩
    · rename_i q
      have ne : (Str.ofString m == Str.ofString k) = false := by
        cases z : (Str.ofString m == Str.ofString k) with
        | false => rfl
        | true =>
          have := ofString_inj (eq_of_beq z)
          subst this
          simp at q
      rw [ne]
      exact rsF_look r e
/-- e.f of a kept exception -/
def tFldX (K : PySem.W.Frag) (te : TE) (f : Str) : TE := fun σ H Q => te σ H fun x H1 => ∃ (a C dd : Addr) (fs : List (Str × V)) (v : V), x = .ref a ∧ H1 a = some (ExA (.ref C) (some dd) a) ∧ H1 dd = some (.xd fs) ∧ ExcZ K C ∧ PySem.W.hasDictIn K C = true ∧ PySem.W.findIn K (.ref C) f = some none ∧ fs.lookup f = some v ∧ Q v H1
theorem pe_fldX {te : TE} (he : PE X e te) (hb : attributeBase e f X.env (eval e X.env) = eval e X.env) : PE X (.Attribute e f pos) (tFldX X.K te f) := by
  refine ⟨fun pins s σ H Q I h => ?_⟩
  refine attr_of hb (thn (he.run pins s σ H _ I h) fun u s1 hh => ?_)
  obtain ⟨x, H1, I1, rx, a, C, dd, fs, v, ex, ha, ea, T, hd, hno, l, q⟩ := hh
  subst ex
  obtain rfl : u = Value.ref a := rx
  have ob : ObjOk X.prog X.w H1 s1.heap a (ExA (.ref C) (some dd) a) := I1.hok a _ ha
  obtain ⟨⟨oe, ws, h1, hz, hdt⟩, _, _⟩ := ob
  have hx : ObjOk X.prog X.w H1 s1.heap dd (.xd fs) := I1.hok dd _ ea
  obtain ⟨mA, hns, hr⟩ := hx
  obtain ⟨od, ho, hl⟩ := lookIn_ns hns
  obtain ⟨u, hu, ru⟩ := RelO.some_of (v := v) (o := mA f) (by rw [← l]; exact hr f)
  have J : PySem.W.InstAt s1.heap a oe C (some od) := ⟨h1, hz.1, by unfold PySem.W.notCls; rw [hdt], by rw [hz.2]; exact ho⟩
  exact HandSPX.exc_get I1.kIn J T.hg T.hk T.hs (PySem.W.findObj_own hd hno rfl (by rw [hl, hu])) (handed_of ru) ⟨v, H1, I1.tok _, ru, q⟩
theorem z_fld (C : CtOk G ct) (fS : String) (hf : f = Str.ofString fS) (hK : G.K = X.K) (ho : PE X e (zE G W fo)) (hb : attributeBase e f X.env (eval e X.env) = eval e X.env := by rfl) : PE X (.Attribute e f pos) (zE G W (fFld ct fS fo)) :=
  peImp (peOr (pe_fld ho hb) (pe_fldX ho hb)) fun σ H Q q => by
  obtain ⟨F, ρ, δ, μ, rr, w, s, e, p⟩ := q
  unfold fFld at e
  cases h : fo δ μ with
  | none => rw [h] at e; cases e
  | some q =>
    obtain ⟨v, μ1⟩ := q
    rw [h] at e
    cases v with
    | error x => cases e; exact .inl ⟨F, ρ, δ, μ, _, w, s, h, p⟩
    | ok v =>
      rw [Rz.bind_ok] at e
      unfold fldO at e
      split at e
      · split at e
        · rename_i c gs hh
          split at e
          · rename_i y hy
            cases e
            obtain ⟨fs0, m1, m2⟩ := hasF_mem hh
            have cc := C.ins _ m1
            refine .inl ⟨F, ρ, δ, μ, _, w, s, h, fun x F1 ρ1 H1 g1 w1 r1 => ?_⟩
            cases r1 with
            | d r1 => cases r1 with
              | ins h1 h2 =>
                obtain ⟨u, hu, ru⟩ := rpF_look h2 hy
                exact ⟨_, _, _, _, u, rfl, w1.ex _ _ h1, by rw [← hK]; exact cc.cl, by rw [← hK, hf]; exact cc.nf _ m2, by rw [hf]; exact hu, p _ _ _ _ g1 w1 (.d ru)⟩
          · cases e
        · cases e
      · split at e
        · rename_i c gs hh
          split at e
          · rename_i y hy
            cases e
            obtain ⟨fs0, m1, m2⟩ := hasF_mem hh
            have cc := C.exc _ m1
            refine .inr ⟨F, ρ, δ, μ, _, w, s, h, fun x F1 ρ1 H1 g1 w1 r1 => ?_⟩
            cases r1 with
            | d r1 => cases r1 with
              | exc0 h1 => cases hy
              | excD h1 h2 h3 =>
                obtain ⟨u, hu, ru⟩ := rpF_look h3 hy
                exact ⟨_, _, _, _, u, rfl, w1.ex _ _ h1, w1.ex _ _ h2, by rw [← hK]; exact cc.ex, by rw [← hK]; exact cc.hd, by rw [← hK, hf]; exact cc.nf _ m2, by rw [hf]; exact hu, p _ _ _ _ g1 w1 (.d ru)⟩
          · cases e
        · cases e
      · rename_i n
        split at e
        · rename_i c gs hc
          split at e
          · rename_i hh
            split at e
            · rename_i y hy
              cases e
              obtain ⟨fs0, m1, m2⟩ := hasF_mem hh
              have cc := C.ins _ m1
              refine .inl ⟨F, ρ, δ, μ, _, w, s, h, fun x F1 ρ1 H1 g1 w1 r1 => ?_⟩
              cases r1 with
              | c hr =>
                obtain ⟨_, dx, vs, h1, h2⟩ := w1.cell _ _ _ hr hc
                obtain ⟨u, hu, ru⟩ := rsF_look h2 hy
                exact ⟨_, _, _, _, u, rfl, h1, by rw [← hK]; exact cc.cl, by rw [← hK, hf]; exact cc.nf _ m2, by rw [hf]; exact hu, p _ _ _ _ g1 w1 ru⟩
            · cases e
          · cases e
        · cases e
      · cases e
/-- o.f = e -/
def putZ (f : String) (v : Sv) : List (String × Sv) → List (String × Sv)
  | [] => [(f, v)]
  | (g, x) :: r => if g = f then (g, v) :: r else (g, x) :: putZ f v r
theorem rsF_put {m : String} {v : V} {y : Sv} (q : Rs G F ρ v y) : ∀ {fs : List (Str × V)} {gs : List (String × Sv)}, RsF G F ρ fs gs → RsF G F ρ (putF (Str.ofString m) v fs) (putZ m y gs)
  | _, _, .nil => .cons q .nil
  | _, _, .cons (k := k) h r => by
    unfold putZ putF
    by_cases e : k = m
    · subst e
      rw [if_pos rfl, if_pos rfl]
      exact .cons q r
    · rw [if_neg e, if_neg (fun z => e (ofString_inj z))]
      exact .cons h (rsF_put q r)
theorem RsF.len {vs : List (Str × V)} {xs : List (String × Sv)} (r : RsF G F ρ vs xs) : vs.length = xs.length := by
  induction r with
  | nil => rfl
  | cons _ _ ih => simp [ih]
def setF (ct : Ct) (f : String) (o v : Sv) (δ : Dl) (μ : Mu) : Sr := match o with
  | .c n => match μ[n]? with
    | some (.ins c fs) => if hasF ct.ins c f = true ∧ fs.length < 1000 then some (.nx, δ, μ.set n (.ins c (putZ f v fs))) else none
    | _ => none
  | _ => none
def sFld (ct : Ct) (f : String) (fo fv : Fz Sv) : Sz := fun δ μ => eS (fv δ μ) δ fun v μ => eS (fo δ μ) δ fun o μ => setF ct f o v δ μ
theorem zs_fld (C : CtOk G ct) (fS : String) (hf : f = Str.ofString fS) (hK : G.K = X.K) {fv : Fz Sv} {pos' : Pos} (ho : PE X o (zE G W fo)) (hv : PE X e (zE G W fv)) (hs : swapsWith e (some (.Attribute o f pos')) pos.line X.env = pure false := by rfl) :
    PS X (.Assign [.Attribute o f pos'] e pos) (zS G W (sFld ct fS fo fv)) := psImp (ps_fld ho hv hs) fun D σ H q => by
  obtain ⟨F, ρ, δ, μ, r, w, s, e, p⟩ := q
  refine zstepS w s e p fun sv μ1 y F1 ρ1 H1 g1 w1 s1 ry e1 p1 => ?_
  refine zstepS w1 s1 e1 p1 fun so μ2 x F2 ρ2 H2 g2 w2 s2 rx e2 p2 => ?_
  unfold setF at e2
  split at e2
  · rename_i n
    split at e2
    · rename_i c gs hc
      split at e2
      · rename_i hh
        cases e2
        obtain ⟨fs0, m1, m2⟩ := hasF_mem hh.1
        have cc := C.ins _ m1
        cases rx with
        | c hr =>
          obtain ⟨h0, dx, vs, h1, h2⟩ := w2.cell _ _ _ hr hc
          refine ⟨_, _, dx, vs, rfl, h1, by rw [← hK]; exact cc.cl, by rw [← hK, hf]; exact cc.nf _ m2, by rw [h2.len]; exact hh.2, ?_⟩
          have w3 := w2.setC hr h0 (c := .ins c (putZ fS sv gs)) (o := .ins (G.cls c) dx (putF f y vs)) ⟨h0, dx, _, by rw [upd_same], by rw [hf]; exact rsF_put (ry.mono g2) h2⟩
          exact p2.nx rfl w3 s2
      · cases e2
    · cases e2
  · cases e2
/-- o.f += e, whole numbers -/
def augF (ct : Ct) (f : String) (op : Int → Int → Int) (o : Sv) (k : Int) (old : Sv) (δ : Dl) (μ : Mu) : Sr := match old with
  | .d (.int i) => setF ct f o (.d (.int (op i k))) δ μ
  | _ => none
def sFldAug (ct : Ct) (f : String) (op : Int → Int → Int) (fo fv : Fz Sv) : Sz := fun δ μ => eS (fo δ μ) δ fun o μ => eS (fldO ct f o μ) δ fun old μ => eS (fv δ μ) δ fun v μ => match v with
  | .d (.int k) => augF ct f op o k old δ μ
  | _ => none
/-- C(..) -/
structure KGn (P : Program) (w : World) (G : Gx) (mg : Str → Option Value) (base : Heap) (x : Str) (c : String) (k : Nat) (fn : Fn) (dds : List D) : Prop where
  ok : ∃ f fd ps ds dvs j, j + 1 ≤ k ∧ mg x = some (.ref (G.cls c)) ∧ Mk G.K (G.cls c) f ∧ FnOk P w G.K mg base (L2.CX P w) j f fd ps (spF G fn) ∧ Binds G.K fd ps ds ∧ Vals dvs ds ∧ ∀ F, RpL G F dvs dds
theorem KGn.mono {P : Program} {w : World} {mg : Str → Option Value} {base : Heap} {x : Str} {c : String} {j k : Nat} {fn : Fn} {dds : List D} (g : KGn P w G mg base x c j fn dds) (h : j ≤ k) : KGn P w G mg base x c k fn dds := by
  obtain ⟨f, fd, ps, ds, dvs, i, a, b⟩ := g
  exact ⟨f, fd, ps, ds, dvs, i, by omega, b⟩
def mkZ (c : String) (fn : Fn) (ds : List D) (as : List Sv) (μ : Mu) : Rz Sv := match fn (.c μ.length :: (as ++ ds.map Sv.d)) (μ ++ [.ins c []]) with
  | some (.ok (.d .non), μ') => some (.ok (.c μ.length), μ')
  | some (.error x, μ') => some (.error x, μ')
  | _ => none
def fMk (c : String) (fn : Fn) (ds : List D) (fr : Fz (List Sv)) : Fz Sv := fun δ μ => (fr δ μ).bind fun as μ => mkZ c fn ds as μ
theorem Wf.plus (w : Wf G F ρ μ H) {q : Addr} (h : H q = none) (u : HO) : Wf G F ρ μ (upd H q u) := by
  refine ⟨fun a v e => ?_, w.len, w.nd, fun n a c h1 h2 => ?_, fun a ha => ?_⟩
  · have ne : a ≠ q := fun z => by rw [z, w.ex.none h] at e; cases e
    rw [upd_ne ne]; exact w.ex a v e
  · have ne : a ≠ q := fun z => w.out h (by rw [← z]; exact List.mem_of_getElem? h1)
    exact (w.cell n a c h1 h2).mono (Gr.refl _ _) rfl (upd_ne ne)
  · have ne : a ≠ q := fun z => w.out h (by rw [← z]; exact ha)
    rw [upd_ne ne]; exact w.dom a ha
theorem mk_at {c : String} {fn : Fn} {dds : List D} {σ : L2.St} {Q : VK} {vs dvs : List V} {as : List Sv} {rr : Except Exn Sv × Mu} (w : Wf G F ρ μ H) (r : RsL G F ρ vs as) (hd : ∀ F, RpL G F dvs dds) (e : mkZ c fn dds as μ = some rr) (p : Post G W σ F ρ (Rs G) Q rr) :
    ∀ x dx, H x = none → H dx = none → dx ≠ x → spF G fn (.ref x :: (vs ++ dvs)) (upd (upd H dx (.own x)) x (.ins (G.cls c) dx [])) (fun v H2 => v = .non ∧ Q (.ref x) H2) (fun c d H => W c d σ H) := by
  intro x dx hx hdx ne
  have w1 := w.plus hdx (.own x)
  have hx1 : upd H dx (.own x) x = none := by rw [upd_ne (fun z => ne z.symm)]; exact hx
  obtain ⟨w2, g2⟩ := w1.newC (p := x) (o := .ins (G.cls c) dx []) (c := .ins c []) hx1 ⟨w.ex.none hx, dx, [], upd_same, .nil⟩
  have hl : (ρ ++ [x])[μ.length]? = some x := by rw [← w.len]; simp
  unfold mkZ at e
  cases h : fn (.c μ.length :: (as ++ dds.map Sv.d)) (μ ++ [.ins c []]) with
  | none => rw [h] at e; cases e
  | some q =>
    obtain ⟨q, μ1⟩ := q
    rw [h] at e
    refine ⟨F, ρ ++ [x], μ ++ [.ins c []], _, _, w2, .cons (.c hl) ((r.mono g2).app (RsL.ofD (hd F))), h, ?_⟩
    cases q with
    | error z =>
      cases e
      exact fun c d F' ρ' H' g w' xr => p c d F' ρ' H' (g2.trans g) w' xr
    | ok v =>
      intro a F' ρ' H' g w' ra
      match v, e, ra with
      | .d .non, e, ra =>
        cases e
        cases ra with
        | d ra =>
          cases ra
          exact ⟨rfl, p _ _ _ _ (g2.trans g) w' (.c (g.at hl))⟩
theorem runmk {j : Nat} {f C : Addr} {fd : FuncData} {ps : List Str} {fn : Fn} {ds : List Value} {dvs : List V} {pins : List (Addr × Obj)} {σ : L2.St} {s : Shared} {Q : VK} {us : List Value} {vs : List V} (M : Mk X.K C f) (Fo : FnOk X.prog X.w X.K X.mg X.base (L2.CX X.prog X.w) j f fd ps (spF G fn))
    (hr : Room (j + 1) X.A) (hb : Binds X.K fd ps ds) (hd : Vals dvs ds) (px : Pz X W) (I : Inv X pins σ H s) (r : Vals vs us)
    (q : ∀ x dx, H x = none → H dx = none → dx ≠ x → spF G fn (.ref x :: (vs ++ dvs)) (upd (upd H dx (.own x)) x (.ins C dx [])) (fun v H2 => v = .non ∧ Q (.ref x) H2) (fun c d H => W c d σ H)) : wpAny (model X.prog X.w) X.A (call (.ref C) us) (EP X pins σ Q) X.xe s := by
  have n1 : H (s.heap.objs.size + 1) = none := I.hok.fresh (Nat.le_succ _)
  have n0 : H s.heap.objs.size = none := I.hok.fresh (Nat.le_refl _)
  have sp1 := q _ _ n1 n0 (Nat.ne_of_lt (Nat.lt_succ_self _))
  have J := Inv.made (C := C) I
  have rr : Vals (V.ref (s.heap.objs.size + 1) :: (vs ++ dvs)) (Value.ref (s.heap.objs.size + 1) :: (us ++ ds)) := .cons rfl (r.append hd)
  have ll : (Value.ref (s.heap.objs.size + 1) :: us ++ ds).length = ps.length := rr.length.symm.trans (Fo.len _ _ _ _ sp1)
  have bb := hb _ (Value.ref (s.heap.objs.size + 1) :: us) J.kIn ll
  have run := Fo.run _ X.stack _ _ ⟨Value.ref (s.heap.objs.size + 1) :: us, []⟩ (Value.ref (s.heap.objs.size + 1) :: (us ++ ds)) _ _ _ (hr.make C us []) (J.env0.make C us []) bb rr sp1
  refine wpAny_call (make_map (f := f) I.kIn M.makes M.init (beq_iff_eq.mp M.fn) (codeAny_mono run fun r s' z => ?_))
  match r, z with
  | .error e, z => exact px σ pins _ _ e s' J z
  | .ok (.ret u), z =>
    obtain ⟨v, H', J', rv, rfl, q3⟩ := J.after z
    exact ⟨rv, ⟨.ref _, H', J', rfl, q3⟩⟩
theorem z_mk {k : Nat} {c : String} {fn : Fn} {dds : List D} (g : KGn X.prog X.w G X.mg X.base x c k fn dds) (hK : G.K = X.K) (hr : Room k X.A) (px : Pz X W) (hg : Gl X x) (ha : PA X (e :: es) (zA G W fr)) (hdb : (x == ("__debug__" : Str)) = false := by decide)
    (he : starEach (e :: es) X.env = (false, eval e X.env) :: starEach es X.env := by rfl) (hpl : (backTo pos (starEach es X.env)).any (·.1) = false := by rfl) : PE X (.Call (.Name x p) (e :: es) [] pos) (zE G W (fMk c fn dds fr)) := ⟨fun pins s σ H Q I q => by
  obtain ⟨f, fd, ps, ds, dvs, j, hj, hm, M, Fo, hb, hd, hdd⟩ := g
  rw [hK] at M Fo hb
  obtain ⟨F, ρ, δ, μ, r, wf, sl, eq, po⟩ := q
  have q2 : zA G W fr σ H (fun vs H1 => ∀ x dx, H1 x = none → H1 dx = none → dx ≠ x → spF G fn (.ref x :: (vs ++ dvs)) (upd (upd H1 dx (.own x)) x (.ins (G.cls c) dx [])) (fun v H2 => v = .non ∧ Q (.ref x) H2) (fun c d H => W c d σ H)) :=
    zstep wf sl eq po fun sa μ1 vs F1 ρ1 H1 g1 w1 s1 rx e1 p1 => mk_at w1 rx hdd e1 p1
  refine wpAny_Call_Name_kw (ld_glob I hg hm ?_ hdb)
  refine PySem.W.callWith_K (h₀ := X.base) I.ok.mod.kin M.kp (thn (ha.run pos pins s σ H _ I q2) ?_) he hpl
  exact fun us s1 ⟨vs, H1, I1, r, q3⟩ => ⟨I1.kIn, runmk M Fo (hr.mono hj) hb hd px I1 r q3⟩⟩
theorem z_mk0 {k : Nat} {c : String} {fn : Fn} {dds : List D} (g : KGn X.prog X.w G X.mg X.base x c k fn dds) (hK : G.K = X.K) (hr : Room k X.A) (px : Pz X W) (hg : Gl X x) (hdb : (x == ("__debug__" : Str)) = false := by decide) : PE X (.Call (.Name x p) [] [] pos) (zE G W (fMk c fn dds fNil)) := ⟨fun pins s σ H Q I q => by
  obtain ⟨f, fd, ps, ds, dvs, j, hj, hm, M, Fo, hb, hd, hdd⟩ := g
  rw [hK] at M Fo hb
  obtain ⟨F, ρ, δ, μ, r, wf, sl, eq, po⟩ := q
  have q2 := mk_at (vs := []) (W := W) (σ := σ) wf .nil hdd (as := []) eq po
  refine wpAny_Call_Name_kw (ld_glob I hg hm ?_ hdb)
  exact PySem.W.callWith_K0 I.kIn M.kp (runmk (us := []) (vs := []) M Fo (hr.mono hj) hb hd px I .nil q2)⟩
/-! ### a function of a class, called by the class's name: C.m(self, ..) -/
structure UGn (P : Program) (w : World) (G : Gx) (mg : Str → Option Value) (base : Heap) (x m : Str) (k : Nat) (fn : Fn) (dds : List D) : Prop where
  ok : ∃ C mc f fd ps ds dvs, mg x = some (.ref C) ∧ PySem.W.specialIn G.K (.ref C) "__getattribute__" = some (some (.builtin "type.__getattribute__")) ∧ PySem.W.readsIn G.K C mc = true ∧ PySem.W.findCls G.K (.ref C) mc m = some (.val (.ref f)) ∧ PySem.W.keepIn G.K (.ref f) = true ∧ FnOk P w G.K mg base (L2.CX P w) k f fd ps (spF G fn) ∧ Binds G.K fd ps ds ∧ Vals dvs ds ∧ ∀ F, RpL G F dvs dds
end
end Z
namespace Z
open PySem PySem.Spec PyProof.Rows L2
/-! ### set(a list of whole numbers), sorted -/
abbrev newSet (w : World) : Obj := { cls := .type "set", dict := none, data := .set #[] 0 (.fresh 0 0 (!w.params.followText "set-order")) }
abbrev listIt (l : Addr) : Obj := { cls := .type "list_iterator", data := .fields #[.ref l, .int 0 0] }
section
variable {P : Program} {w : World} {A : Around} {E : Value → Shared → Prop} {s : Shared}
abbrev SetDone (w : World) (s : Shared) (ns : List Int) (s₂ : Shared) : Prop := ∃ (h' : Heap) (tk c : Nat), s₂ = { s with heap := h', toks := tk } ∧ SetR w h' s.heap.objs.size (fun j => decide (j ∈ ns)) c ∧ c ≤ ns.length ∧ ∀ b o, s.heap.get? b = some o → h'.get? b = some o
theorem init_set_list {A : Around} {l : Addr} {items : Array Value} (ns : List Int) (hh : A.handled = none) (hl : s.heap.IsList l items) (hit : IntsAre items.toList ns) (hb : ns.length + 1 < scanBound) :
    wpAny (model P w) A.in1 (Builtin.«set.__init__» ⟨[.ref s.heap.objs.size, .ref l], []⟩) (fun fin s' => match fin with
      | .done f => wants (fun r s₂ => r = .none ∧ SetDone w s ns s₂) E (.ok f) s'
      | .again c' => c'.quiet = true ∧ codeAny (model P w) A c' (wants (fun r s₂ => r = .none ∧ SetDone w s ns s₂) E) s') (fun e s' => wants (fun r s₂ => r = .none ∧ SetDone w s ns s₂) E (.error e) s') { s with heap := s.heap.push (newSet w) } := by
  have size : items.size = ns.length := by rw [← Array.length_toList]; exact IntsAre.length hit
  obtain ⟨⟨c0, d0, t0, s0⟩, there, rfl, n0, rfl⟩ := id hl
  have hS : (s.heap.push (newSet w)).get? s.heap.objs.size = some (newSet w) := Heap.get?_push_size _ rfl
  have there' : (s.heap.push (newSet w)).get? l = some ⟨.type "list", d0, .seq items n0, s0⟩ := Heap.get?_push_of_some _ there
  have sub1 := F.sub_list_set
  have sub2 := F.sub_list_frozenset
  have nd : (Value.type "list" == Value.type "dict") = false := by decide
  have isl : (s.heap.push (newSet w)).IsList l items := ⟨_, there', rfl, n0, rfl⟩
  unfold Builtin.«set.__init__» noKeywords Builtin.Frozenset.updateFrom
  generalize hPI : pyIter = PI
  wp_walk
  subst hPI
  refine wpAny_pyIter_list isl (wpAny_bind (wpAny_runValue ?_))
  have small : l < s.heap.objs.size := Heap.lt_size there
  have calm : A.in1.in1.handled = none := by simp [hh]
  have sz : (s.heap.push (newSet w)).objs.size = s.heap.objs.size + 1 := Heap.size_push ..
  have n1 : l ≠ (s.heap.push (newSet w)).objs.size := by rw [sz]; exact Nat.ne_of_lt (Nat.lt_succ_of_lt small)
  have n2 : s.heap.objs.size ∉ [(s.heap.push (newSet w)).objs.size, l] := by
    rw [sz]
    intro h
    rcases List.mem_cons.1 h with h | h
    · exact absurd h (Nat.ne_of_lt (Nat.lt_succ_self _))
    · exact absurd (List.mem_singleton.1 h) (Nat.ne_of_gt small)
  have val : ∀ (i : Nat) (v : Value), items[i]? = some v → ∃ k t, ns[i]? = some k ∧ v = .int k t := fun i v hv => by
    have hi : i < ns.length := by rw [← size]; exact (Array.getElem?_eq_some_iff.mp hv).1
    obtain ⟨t, e⟩ := IntsAre.int_at hit i v (by rw [Array.getElem?_toList]; exact hv)
    exact ⟨ns[i], t, List.getElem?_eq_getElem hi, by rw [e, List.getD_eq_getElem?_getD, List.getElem?_eq_getElem hi]; rfl⟩
  have got : ((s.heap.push (newSet w)).push (listIt l)).get? s.heap.objs.size = some (newSet w) := Heap.get?_push_of_some _ hS
  refine set_update_ints ((Walks.list calm _ l n1 items).toS) s.heap.objs.size n2 ns size hb val (items.size - 0) 0 _ (by omega) (Nat.zero_le _) ⟨⟨_, Heap.get?_push_size _ rfl, rfl, rfl⟩, isl.push _⟩ ?z ?_
  case z => exact ⟨0, Nat.le_refl 0, setR_new_at got⟩
  rintro ⟨h', g2, d', tk', os'⟩ c' mv hc hR
  obtain rfl : g2 = s.gens := mv.gens
  obtain rfl : d' = s.drawn := mv.drawn
  obtain rfl : os' = s.os := mv.os
  refine wpAny_pure (wpAny_pure ⟨rfl, h', tk', c', rfl, hR, by rw [← size]; exact hc, fun b o e => ?_⟩)
  have lt : b < s.heap.objs.size := Heap.lt_size e
  refine mv.heap b o (fun h => ?_) (Heap.get?_push_of_some _ (Heap.get?_push_of_some _ e))
  rcases List.mem_cons.1 h with h | h
  · exact absurd h (Nat.ne_of_lt lt)
  · have := List.mem_singleton.1 h
    rw [sz] at this
    exact absurd this (Nat.ne_of_lt (Nat.lt_succ_of_lt lt))
theorem call_setL {l : Addr} {items : Array Value} (ns : List Int) {Q : Value → Shared → Prop} (hh : A.handled = none) (hl : s.heap.IsList l items) (hit : IntsAre items.toList ns) (hb : ns.length + 1 < scanBound)
    (h : ∀ s₂, SetDone w s ns s₂ → Q (.ref s.heap.objs.size) s₂) : wpAny (model P w) A (call (.type "set") [.ref l]) Q E s := by
  obtain ⟨c, tl, hmro⟩ := F.called_set.mro
  have k1 := F.called_set.made
  have k2 := F.called_set.sub
  refine wpAny_call (codeAny_of_tree ?_)
  show wpAny _ _ (callAny (.type "set") _) _ _ _
  refine wpAny_pure ⟨Code.quiet_builtin _ (by decide +kernel), codeAny_builtin F.entry_type_call ?_⟩
  rw [Around.under_plain (weight_type_call_type "set" [.ref l] []) rfl]
  have k3 := F.called_set.notType
  have k4 := F.called_set.canCreate
  have k5 := F.typeCall_set_1 (.ref l)
  repeat (any_goals (first | assumption | wp_step))
  refine codeAny_mono (code_set_led1 (.ref l) (E := E) (Q₁ := fun obj s₁ => obj = .ref s.heap.objs.size ∧ s₁ = { s with heap := s.heap.push (newSet w) }) ⟨rfl, rfl⟩) fun r s₁ hr => ?_
  match r, hr with
  | .error e, hr => exact hr
  | .ok (.ret obj), hr =>
    obtain ⟨rfl, rfl⟩ := hr
    have hS : (s.heap.push (newSet w)).get? s.heap.objs.size = some (newSet w) := Heap.get?_push_size _ rfl
    have hT : Shared.TypeIs { s with heap := s.heap.push (newSet w) } (.ref s.heap.objs.size) "set" := ⟨_, hS, rfl⟩
    have k6 := F.called_set.init.lookup
    have k7 := F.called_set.init.bind (.ref s.heap.objs.size)
    repeat (any_goals (first | assumption | wp_step))
    refine codeAny_mono (codeAny_call_builtin (R := wants (fun r s₂ => r = .none ∧ SetDone w s ns s₂) E) F.called_set.init.plain F.entry_set_init (check_set_init_1 hT (init_set_list ns (by simpa using hh) hl hit hb))) fun r₂ s₂ hr₂ => ?_
    match r₂, hr₂ with
    | .error e, hr₂ => exact hr₂
    | .ok (.ret r), hr₂ =>
      obtain ⟨rfl, dn⟩ := hr₂
      have dn' := dn
      obtain ⟨h', tk, c, rfl, hR, hc, hk⟩ := dn
      repeat (any_goals (first | assumption | wp_step))
      exact h _ dn'
end

/-- strictly rising, each once -/
def insU (x : Int) : List Int → List Int
  | [] => [x]
  | y :: r => if x < y then x :: y :: r else if x = y then y :: r else y :: insU x r
def sortU : List Int → List Int
  | [] => []
  | x :: r => insU x (sortU r)
theorem mem_insU (x k : Int) : ∀ l : List Int, k ∈ insU x l ↔ k = x ∨ k ∈ l
  | [] => by simp [insU]
  | y :: r => by
    unfold insU
    split
    · simp
    · split
      · rename_i e; subst e; simp
      · simp [mem_insU x k r]; constructor
        · rintro (h | h | h) <;> simp [h]
        · rintro (h | h | h) <;> simp [h]
theorem insU_pw (x : Int) : ∀ {l : List Int}, l.Pairwise (· < ·) → (insU x l).Pairwise (· < ·)
  | [], _ => by simp [insU]
  | y :: r, h => by
    unfold insU
    split
    · rename_i lt
      refine List.pairwise_cons.2 ⟨fun z hz => ?_, h⟩
      rcases List.mem_cons.1 hz with rfl | hz
      · exact lt
      · have := (List.pairwise_cons.1 h).1 z hz; omega
    · split
      · exact h
      · rename_i n1 n2
        refine List.pairwise_cons.2 ⟨fun z hz => ?_, insU_pw x (List.pairwise_cons.1 h).2⟩
        rcases (mem_insU x z r).1 hz with rfl | hz
        · omega
        · exact (List.pairwise_cons.1 h).1 z hz
theorem sortU_pw : ∀ l : List Int, (sortU l).Pairwise (· < ·)
  | [] => List.Pairwise.nil
  | x :: r => insU_pw x (sortU_pw r)
theorem mem_sortU (k : Int) : ∀ l : List Int, k ∈ sortU l ↔ k ∈ l
  | [] => by simp [sortU]
  | x :: r => by simp [sortU, mem_insU, mem_sortU k r]
theorem pw_uniq : ∀ {l m : List Int}, l.Pairwise (· < ·) → m.Pairwise (· < ·) → (∀ k, k ∈ l ↔ k ∈ m) → l = m
  | [], [], _, _, _ => rfl
  | [], y :: m, _, _, h => absurd ((h y).2 (by simp)) (by simp)
  | x :: l, [], _, _, h => absurd ((h x).1 (by simp)) (by simp)
  | x :: l, y :: m, hl, hm, h => by
    have a := List.pairwise_cons.1 hl
    have b := List.pairwise_cons.1 hm
    have e : x = y := by
      have h1 := (h x).1 (by simp)
      have h2 := (h y).2 (by simp)
      rcases List.mem_cons.1 h1 with h1 | h1
      · exact h1
      · rcases List.mem_cons.1 h2 with h2 | h2
        · exact h2.symm
        · have := a.1 y h2
          have := b.1 x h1
          omega
    subst e
    congr 1
    refine pw_uniq a.2 b.2 fun k => ⟨fun hk => ?_, fun hk => ?_⟩
    · rcases List.mem_cons.1 ((h k).1 (by simp [hk])) with e | e
      · subst e; have := a.1 k hk; omega
      · exact e
    · rcases List.mem_cons.1 ((h k).2 (by simp [hk])) with e | e
      · subst e; have := b.1 k hk; omega
      · exact e
theorem sortU_id {l : List Int} (h : l.Pairwise (· < ·)) : sortU l = l := pw_uniq (sortU_pw l) h fun k => mem_sortU k l
section
variable {G : Gx} {X : Cx} {W : WX} {F : Hp} {ρ : List Addr} {μ : Mu} {H : Hp} {a b c : Expr} {fa fb fc : Fz Sv} {fr : Fz (List Sv)} {pos p p2 p0 : Pos} {tg : Expr}
/-- set(list of ints) -/
def rSetI (K : PySem.W.Frag) (w : World) : List V → Hp → VK → Prop := fun vs H Q => ∃ (l : Addr) (ns : List Int), vs = [V.ref l] ∧ SqL K H l (ns.map V.int) ∧ ns.length < 64 ∧
  ∀ (q : Addr) (S : Int → Bool) (n : Nat), H q = none → (∀ k, S k = true ↔ k ∈ ns) → n ≤ ns.length → Q (.ref q) (upd H q (SetO w q S n))
theorem ints_at : ∀ {ns : List Int} {its : List Value}, Vals (ns.map V.int) its → IntsAre its ns
  | [], _, .nil => .nil
  | n :: r, _, .cons h t => by
    obtain ⟨tk, rfl⟩ := h
    exact .cons _ _ (ints_at t)
theorem cr_setI (hc : X.calm = true) : CallR X (.type "set") (rSetI X.K X.w) := by
  intro pins s σ H vs us Q I r h
  obtain ⟨l, ns, rfl, hl, hn, q⟩ := h
  rw [Vals.ref1 r]
  obtain ⟨its, rv, pl, hz⟩ := I.list hl
  refine call_setL ns (I.ok.hd hc) pl.isList (by simpa using ints_at rv) (by unfold scanBound; omega) fun s2 ⟨h', tk, c, e, hR, hcn, hk⟩ => ?_
  subst e
  have hq : H s.heap.objs.size = none := I.hok.fresh (Nat.le_refl _)
  exact ⟨.ref _, upd H s.heap.objs.size (SetO X.w s.heap.objs.size (fun j => decide (j ∈ ns)) c), I.laid (t' := tk) hk (Nat.le_refl _) (setO_new hR), rfl, q _ _ _ hq (fun k => by simp) hcn⟩
/-- sorted(set(xs)) -/
def fSortS (fa : Fz Sv) : Fz Sv := fun δ μ => (fa δ μ).bind fun v μ => match (lstV μ v).bind toIs with
  | some ns => if ns.length < 64 then okz (.lst ((sortU ns).map D.int)) μ else none
  | none => none
theorem rpl_ints : ∀ l : List Int, RpL G F (l.map V.int) (l.map D.int)
  | [] => .nil
  | n :: r => .cons (.int n) (rpl_ints r)
theorem z_sortS (hK : G.K = X.K) (hc : X.calm = true) (hg : Gl X "sorted") (hm : X.mg "sorted" = none) (hg2 : Gl X "set") (hm2 : X.mg "set" = none) (ha : PE X a (zE G W fa))
    (na : starEach [.Call (.Name "set" p2) [a] [] p] X.env = (false, eval (.Call (.Name "set" p2) [a] [] p) X.env) :: starEach [] X.env := by rfl) (nb : starEach [a] X.env = (false, eval a X.env) :: starEach [] X.env := by rfl) :
    PE X (.Call (.Name "sorted" p0) [.Call (.Name "set" p2) [a] [] p] [] pos) (zE G W (fSortS fa)) :=
  peImp (pe_callB (cr_sortedSet hc) hg hm (by decide +kernel) (pa_cons (pe_callTy (cr_setI hc) hg2 hm2 (by decide +kernel) (pa_cons ha pa_nil nb) (by decide) (by decide) nb (by rfl)) pa_nil na) (by decide) (by decide) na (by rfl)) fun σ H Q q => by
  obtain ⟨F, ρ, δ, μ, rr, w, s, e, p⟩ := q
  refine zstep w s e p fun sa μ1 v F1 ρ1 H1 g1 w1 s1 rv e1 p1 => ?_
  split at e1
  · rename_i ns hns
    split at e1
    · rename_i hl
      cases e1
      cases hv : lstV μ1 sa with
      | none => rw [hv] at hns; cases hns
      | some xs =>
        rw [hv] at hns
        obtain ⟨l, vs, rfl, h1, h2⟩ := lstV_at w1 rv hv
        have ev := toIs_at h2 hns
        subst ev
        refine ⟨l, ns, rfl, by rw [← hK]; exact h1, hl, fun q S n hq hS hn => ?_⟩
        refine ⟨q, S, n, rfl, upd_same, by omega, fun ms p2 pw mem hlen hp2 => ?_⟩
        have em : ms = sortU ns := pw_uniq pw (sortU_pw ns) fun k => by rw [mem, hS, mem_sortU]
        subst em
        have w2 := w1.plus hq (SetO X.w q S n)
        obtain ⟨w3, g3⟩ := w2.newD hp2 (.lst ((sortU ns).map V.int))
        exact p1 _ _ _ _ g3 w3 (.d (.lst (SqL.of upd_same) (rpl_ints _)))
    · cases e1
  · cases e1
/-- list(range(a, b, -1)) -/
def rngC (lo c : Int) (n : Nat) : List Int := (List.range n).map fun i => lo + (i : Nat) * c
def lrg3O (as : List Sv) (μ : Mu) : Rz Sv := match as with
  | [.d (.int i), .d (.int j), .d (.int k)] => if k = -1 ∧ -16777216 ≤ j ∧ j ≤ 16777216 ∧ -16777216 ≤ i ∧ i ≤ 16777216 ∧ i - j ≤ 16777216 then okz (.lst ((rngC i (-1) (i - j).toNat).map D.int)) μ else none
  | _ => none
def fLRg3 (fr : Fz (List Sv)) : Fz Sv := fun δ μ => (fr δ μ).bind fun as μ => lrg3O as μ
def fRng3 (fr : Fz (List Sv)) : Fz (List Sv) := fun δ μ => (fr δ μ).bind fun as μ => match as with
  | [.d (.int i), .d (.int j), .d (.int k)] => if k = -1 ∧ -(2 ^ 62) ≤ j ∧ j < 2 ^ 62 ∧ -(2 ^ 62) ≤ i ∧ i < 2 ^ 62 then some (.ok ((rngC i (-1) (i - j).toNat).map fun i => .d (.int i)), μ) else none
  | _ => none
theorem wk_rngC (lo c : Int) (n : Nat) : WalkOk G F ρ (Itc lo c n) ((rngC lo c n).map fun i => Sv.d (.int i)) := by
  intro F' ρ' μ' H' g w i
  refine ⟨fun hi => ?_, fun y hy => ?_⟩
  · show n ≤ i
    simpa [rngC] using hi
  · unfold rngC at hy
    rw [List.getElem?_map, List.getElem?_map] at hy
    by_cases hi : i < n
    · rw [List.getElem?_range hi] at hy
      have hy' : Sv.d (.int (lo + (i : Nat) * c)) = y := Option.some.inj hy
      subst hy'
      refine ⟨hi, fun v H'' ⟨e1, ev⟩ => ?_⟩
      subst e1 ev
      exact ⟨F', ρ', Gr.refl _ _, w, .d (.int _)⟩
    · rw [List.getElem?_eq_none (by simpa using hi)] at hy; cases hy
theorem zi_rng3 (hg : Gl X "range") (hm : X.mg "range" = none) (ha : PA X [a, b, c] (zA G W fr)) (hs : starEach [a, b, c] X.env = (false, eval a X.env) :: starEach [b, c] X.env := by rfl) (hpl : (backTo pos (starEach [b, c] X.env)).any (·.1) = false := by rfl) :
    PI X tg (.Call (.Name "range" p) [a, b, c] [] pos) (zI G W (fRng3 fr)) := piImp (pi_range3 hg hm ha hs hpl) fun σ H R q => by
  obtain ⟨F, ρ, δ, μ, rr, w, s, e, p⟩ := q
  refine zstep w s e p fun sa μ1 x F1 ρ1 H1 g1 w1 s1 rx e1 p1 => ?_
  split at e1
  · split at e1
    · rename_i hb
      obtain ⟨rfl, hb⟩ := hb
      cases e1
      cases rx with | cons r t => cases t with | cons r2 t => cases t with | cons r3 t => cases t; cases r with | d r => cases r; cases r2 with | d r2 => cases r2; cases r3 with | d r3 => cases r3; exact ⟨_, _, _, _, rfl, RgC.neg hb.2.2.1 hb.2.2.2 hb.1 hb.2.1, p1.ok w1 (wk_rngC _ _ _)⟩
    · cases e1
  · cases e1
def tLRg3 (ta : TA) : TE := fun σ H Q => ta σ H fun vs H1 => ∃ (i j : Int), vs = [.int i, .int j, .int (-1)] ∧ (-(2 ^ 62) ≤ i ∧ i < 2 ^ 62 ∧ -(2 ^ 62) ≤ j ∧ j < 2 ^ 62 ∧ i - j ≤ 16777216) ∧ ∀ q, H1 q = none → Q (.ref q) (upd H1 q (.lst ((rngC i (-1) (i - j).toNat).map V.int)))
theorem pe_lrg3 {ta : TA} (hc : X.calm = true) (hg : Gl X "list") (hm : X.mg "list" = none) (hg2 : Gl X "range") (hm2 : X.mg "range" = none) (ha : PA X [a, b, c] ta)
    (na : starEach [.Call (.Name "range" p2) [a, b, c] [] p] X.env = (false, eval (.Call (.Name "range" p2) [a, b, c] [] p) X.env) :: starEach [] X.env := by rfl) (hs : starEach [a, b, c] X.env = (false, eval a X.env) :: starEach [b, c] X.env := by rfl) (hpl : (backTo p (starEach [b, c] X.env)).any (·.1) = false := by rfl) :
    PE X (.Call (.Name "list" p0) [.Call (.Name "range" p2) [a, b, c] [] p] [] pos) (tLRg3 ta) := by
  refine ⟨fun pins s σ H Q I h => ?_⟩
  have rg : wpAny (model X.prog X.w) X.A (eval (.Call (.Name "range" p2) [a, b, c] [] p) X.env) (fun x s' => ∃ (r : Addr) (i j : Int) (t u v : Tok) (H' : Hp), x = .ref r ∧ IsRange s'.heap r i j (-1) t u v ∧ Inv X pins σ H' s' ∧ (-(2 ^ 62) ≤ i ∧ i < 2 ^ 62 ∧ -(2 ^ 62) ≤ j ∧ j < 2 ^ 62 ∧ i - j ≤ 16777216) ∧
      ∀ q, H' q = none → Q (.ref q) (upd H' q (.lst ((rngC i (-1) (i - j).toNat).map V.int)))) X.xe s := by
    refine Call_ (ld_blt I hg2 hm2 boot_range (PyProof.Rows.callWith_type1 (thn (ha.run p pins s σ H _ I h) fun us s1 ⟨vs, H1, I1, r1, i, j, ev, hb, q⟩ => ?_) hs hpl))
    subst ev
    cases r1 with
    | cons x1 r1 =>
    cases r1 with
    | cons x2 r1 =>
    cases r1 with
    | cons x3 r1 =>
      cases r1
      obtain ⟨t, rfl⟩ := (show ∃ t, _ = Value.int i t from x1)
      obtain ⟨u, rfl⟩ := (show ∃ t, _ = Value.int j t from x2)
      obtain ⟨v, rfl⟩ := (show ∃ t, _ = Value.int (-1) t from x3)
      exact call_range_3 (by decide) ⟨_, i, j, _, _, _, H1, rfl, IsRange.new _ _ _ _ _ _ _, I1.kept fun b o e => Heap.get?_push_of_some _ e, hb, q⟩ (.inl (PyProof.noPylong_small (by decide)))
  refine Call_ (ld_blt I hg hm boot_list (PyProof.Rows.callWith_type1 (args_cons (thn rg fun x s1 hh => args_nil ?_) na) na))
  obtain ⟨r, i, j, t, u, v, H1, rfl, hr, I1, hb, q⟩ := hh
  refine call_list_range (n := (i - j).toNat) (I1.ok.hd hc) hr (PySem.W.small_down hb.1 hb.2.1 hb.2.2.1 hb.2.2.2.1) (PySem.W.rangeSize_downNat i j) (by omega) fun h' tk acc c' hk e' hi => ?_
  have hv : Vals ((rngC i (-1) (i - j).toNat).map V.int) acc.toList := by
    refine vals_of_at (by unfold rngC; simp [hi.1]) fun m x u h1 h2 => ?_
    obtain ⟨t', ht⟩ := hi.2 m u (by rw [← Array.getElem?_toList]; exact h2)
    unfold rngC at h1
    rw [List.getElem?_map, List.getElem?_map] at h1
    by_cases hm : m < (i - j).toNat
    · rw [List.getElem?_range hm] at h1
      cases h1; subst ht
      exact ⟨t', rfl⟩
    · rw [List.getElem?_eq_none (by simpa using hm)] at h1; cases h1
  refine ⟨.ref s1.heap.objs.size, upd H1 s1.heap.objs.size (.lst ((rngC i (-1) (i - j).toNat).map V.int)), I1.laid hk (Nat.le_refl _) (show ObjOk X.prog X.w _ _ _ (.lst _) from ⟨?_, acc.toList, c', hv, ?_⟩), rfl, q _ (I1.hok.fresh (Nat.le_refl _))⟩
  · rw [szl]; unfold rngC; simp; omega
  · rw [Array.toArray_toList]; exact e'
theorem z_lrg3 (hc : X.calm = true) (hg : Gl X "list") (hm : X.mg "list" = none) (hg2 : Gl X "range") (hm2 : X.mg "range" = none) (ha : PA X [a, b, c] (zA G W fr))
    (na : starEach [.Call (.Name "range" p2) [a, b, c] [] p] X.env = (false, eval (.Call (.Name "range" p2) [a, b, c] [] p) X.env) :: starEach [] X.env := by rfl) (hs : starEach [a, b, c] X.env = (false, eval a X.env) :: starEach [b, c] X.env := by rfl) (hpl : (backTo p (starEach [b, c] X.env)).any (·.1) = false := by rfl) :
    PE X (.Call (.Name "list" p0) [.Call (.Name "range" p2) [a, b, c] [] p] [] pos) (zE G W (fLRg3 fr)) := peImp (pe_lrg3 hc hg hm hg2 hm2 ha na hs hpl) fun σ H Q q => by
  obtain ⟨F, ρ, δ, μ, rr, w, s, e, p⟩ := q
  refine zstep w s e p fun sa μ1 v F1 ρ1 H1 g1 w1 s1 rv e1 p1 => ?_
  unfold lrg3O at e1
  split at e1
  · split at e1
    · rename_i hb
      obtain ⟨rfl, hb⟩ := hb
      cases e1
      cases rv with | cons r t => cases t with | cons r2 t => cases t with | cons r3 t => cases t; cases r with | d r => cases r; cases r2 with | d r2 => cases r2; cases r3 with | d r3 => cases r3; exact ⟨_, _, rfl, by omega, fun q hq => by
        obtain ⟨w2, g2⟩ := w1.newD hq (.lst ((rngC _ (-1) _).map V.int))
        exact p1 _ _ _ _ g2 w2 (.d (.lst (SqL.of upd_same) (rpl_ints _)))⟩
    · cases e1
  · cases e1
end
end Z
namespace Z
open PySem PySem.Spec PyProof.Rows L2
section
variable {P : Except Exn Sv → Mu → Prop} {Pl : Except Exn (List Sv) → Mu → Prop} {δ : Dl} {μ : Mu}
def rng3O (as : List Sv) (μ : Mu) : Rz (List Sv) := match as with
  | [.d (.int i), .d (.int j), .d (.int k)] => if k = -1 ∧ -(2 ^ 62) ≤ j ∧ j < 2 ^ 62 ∧ -(2 ^ 62) ≤ i ∧ i < 2 ^ 62 then some (.ok ((rngC i (-1) (i - j).toNat).map fun i => .d (.int i)), μ) else none
  | _ => none
def sortSO (v : Sv) (μ : Mu) : Rz Sv := match (lstV μ v).bind toIs with
  | some ns => if ns.length < 64 then okz (.lst ((sortU ns).map D.int)) μ else none
  | none => none
@[simp] theorem Ev_lrg3 (fr : Fz (List Sv)) : Ev (fLRg3 fr δ μ) P = Ev (fr δ μ) (fun e μ => okc e (fun a => Ev (lrg3O a μ) P) (fun x => P (.error x) μ)) := by
  show Ev (Rz.bind _ (fun a μ => lrg3O a μ)) _ = _
  rw [Ev_bind]
@[simp] theorem Ev_rng3 (fr : Fz (List Sv)) : Ev (fRng3 fr δ μ) Pl = Ev (fr δ μ) (fun e μ => okc e (fun a => Ev (rng3O a μ) Pl) (fun x => Pl (.error x) μ)) := by
  show Ev (Rz.bind _ (fun a μ => rng3O a μ)) _ = _
  rw [Ev_bind]
@[simp] theorem Ev_sortS (fa : Fz Sv) : Ev (fSortS fa δ μ) P = Ev (fa δ μ) (fun e μ => okc e (fun a => Ev (sortSO a μ) P) (fun x => P (.error x) μ)) := by
  show Ev (Rz.bind _ (fun a μ => sortSO a μ)) _ = _
  rw [Ev_bind]
@[simp] theorem Ev_lrg3O (i j k : Int) : Ev (lrg3O [.d (.int i), .d (.int j), .d (.int k)] μ) P = ((k = -1 ∧ -16777216 ≤ j ∧ j ≤ 16777216 ∧ -16777216 ≤ i ∧ i ≤ 16777216 ∧ i - j ≤ 16777216) ∧ P (.ok (.d (.lst ((rngC i (-1) (i - j).toNat).map D.int)))) μ) := by
  unfold lrg3O; dsimp only
  apply propext
  split
  · rename_i h; simp [h]
  · rename_i h
    constructor
    · rintro ⟨_, _, e, _⟩; cases e
    · exact fun q => absurd q.1 h
@[simp] theorem Ev_rng3O (i j k : Int) : Ev (rng3O [.d (.int i), .d (.int j), .d (.int k)] μ) Pl = ((k = -1 ∧ -4611686018427387904 ≤ j ∧ j < 4611686018427387904 ∧ -4611686018427387904 ≤ i ∧ i < 4611686018427387904) ∧ Pl (.ok ((rngC i (-1) (i - j).toNat).map fun i => .d (.int i))) μ) := by
  unfold rng3O; dsimp only
  apply propext
  split
  · rename_i h; simp at h; simp [h]
  · rename_i h
    constructor
    · rintro ⟨_, _, e, _⟩; cases e
    · exact fun q => absurd (by simpa using q.1) h
theorem sortSO_l (l : List Int) (h : l.length < 64) : sortSO (.d (.lst (l.map D.int))) μ = okz (.lst ((sortU l).map D.int)) μ := by
  unfold sortSO
  have : (lstV μ (.d (.lst (l.map D.int)))).bind toIs = some l := by
    simp only [lstV, Option.bind_some, List.map_map]
    exact toIs_map l
  rw [this]; dsimp only; rw [if_pos h]
theorem rngC_at {lo c : Int} {n i : Nat} {x : Sv} (h : ((rngC lo c n).map fun i => Sv.d (.int i))[i]? = some x) : i < n ∧ x = .d (.int (lo + (i : Int) * c)) := by
  by_cases hi : i < n
  · rw [List.getElem?_map, rngC, List.getElem?_map, List.getElem?_range hi] at h
    exact ⟨hi, by cases h; rfl⟩
  · rw [List.getElem?_eq_none (by simp [rngC]; omega)] at h; cases h
@[simp] theorem rngC_len (lo c : Int) (n : Nat) : (rngC lo c n).length = n := by simp [rngC]
end
end Z
namespace Z
open PySem PySem.Spec PyProof.Rows L2
/-! ## zip of any two inner iterators; of a list and a tuple -/
/-- an inner iterator at i over what lies at l: St h k says that it stands at k of xs -/
structure Feed (i l : Addr) (xs : Array Value) (St : Heap → Nat → Prop) : Prop where
  keep : ∀ {h h' : Heap} {k : Nat}, St h k → (∀ o, h.get? i = some o → h'.get? i = some o) → (∀ o, h.get? l = some o → h'.get? l = some o) → St h' k
  at_ : ∀ {h : Heap} {k : Nat}, St h k → ∃ o, h.get? i = some o
  item : ∀ {prog : Program} {w : World} {A : Around} {E : Value → Shared → Prop} {s : Shared} {k : Nat} {x : Value} {Q : Value → Shared → Prop}, St s.heap k → xs[k]? = some x →
    (∀ h', St h' (k + 1) → Heap.SameBut i s.heap h' → Q x { s with heap := h' }) → wpAny (model prog w) A (Builtin.SmallTypes.nextOf (.ref i)) Q E s
  stop : ∀ {prog : Program} {w : World} {A : Around} {E : Value → Shared → Prop} {s : Shared} {k : Nat} {Q : Value → Shared → Prop}, A.handled = none → St s.heap k → xs[k]? = none →
    (∀ h' e, Heap.ExtBut i s.heap h' → (∃ o, h'.get? e = some o ∧ o.cls = .type "StopIteration") → E (.ref e) { s with heap := h' }) → wpAny (model prog w) A (Builtin.SmallTypes.nextOf (.ref i)) Q E s
section
variable {i l : Addr} {xs : Array Value} {St : Heap → Nat → Prop}
theorem Feed.stay (f : Feed i l xs St) {h h' : Heap} {b : Addr} {k : Nat} (h1 : i ≠ b) (h2 : l ≠ b) (e : Heap.ExtBut b h h') (s : St h k) : St h' k :=
  f.keep s (fun o q => e _ o h1 q) (fun o q => e _ o h2 q)
theorem feed_list (hne : l ≠ i) : Feed i l xs fun h k => h.IsListIter i l k ∧ h.IsList l xs where
  keep := fun s a b => ⟨s.1.at a, s.2.at b⟩
  at_ := fun s => let ⟨o, e, _⟩ := s.1; ⟨o, e⟩
  item := fun s hx q => wpAny_nextOf_list_item s.1 s.2 hx fun h' h1 hs => q h' ⟨h1, s.2.extBut hs.extBut hne⟩ hs
  stop := fun hh s hx q => wpAny_nextOf_list_end hh s.1 s.2 hx q
theorem tup_at {h h' : Heap} (s : h.IsTuple l xs) (b : ∀ o, h.get? l = some o → h'.get? l = some o) : h'.IsTuple l xs := let ⟨o, e, r⟩ := s; ⟨o, b o e, r⟩
theorem feed_tuple (hne : l ≠ i) : Feed i l xs fun h k => h.IsTupleIter i l k ∧ h.IsTuple l xs where
  keep := fun s a b => ⟨let ⟨o, e, r⟩ := s.1; ⟨o, a o e, r⟩, tup_at s.2 b⟩
  at_ := fun s => let ⟨o, e, _⟩ := s.1; ⟨o, e⟩
  item := fun s hx q => RZ.nextOf_tuple_item s.1 s.2 hx fun h' h1 hs => q h' ⟨h1, s.2.extBut hs.extBut hne⟩ hs
  stop := fun hh s hx q => RZ.nextOf_tuple_end hh s.1 s.2 hx q
end
section
variable {prog : Program} {w : World} {A : Around} {E : Value → Shared → Prop} {s : Shared} {z TI TO i1 i2 l1 l2 : Addr} {k1 k2 : Nat} {xs ys : Array Value} {x y a b : Value} {S1 S2 : Heap → Nat → Prop}
theorem zipF_next_item {Q : Value → Shared → Prop} (D : ZipApart z TI TO i1 i2 l1 l2) (f1 : Feed i1 l1 xs S1) (f2 : Feed i2 l2 ys S2)
    (hz : IsZip s.heap z TI TO .none) (hTI : IsPair s.heap TI (.ref i1) (.ref i2)) (hTO : IsPair s.heap TO a b) (h1 : S1 s.heap k1) (h2 : S2 s.heap k2) (hx : xs[k1]? = some x) (hy : ys[k2]? = some y)
    (hQ : ∀ h', IsZip h' z TI TO (rawInt s.heap.objs.size) → IsPair h' TO x y → S1 h' (k1 + 1) → S2 h' (k2 + 1) → IsPair h' s.heap.objs.size x y → h'.objs.size = s.heap.objs.size + 1 →
      (∀ c o, c ≠ z → c ≠ TO → c ≠ i1 → c ≠ i2 → s.heap.get? c = some o → h'.get? c = some o) → Q (.ref s.heap.objs.size) { s with heap := h' }) :
    wpAny (model prog w) A (Builtin.«zip.__next__» ⟨[.ref z], []⟩) (fun fin s' => ∃ v, fin = .done (.ret v) ∧ Q v s') E s := by
  show wpAny _ _ (field (.ref z) 2 >>= _) _ _ _
  refine wpAny_bind (wpAny_field hz rfl (x := .bool false) rfl ?_)
  show wpAny _ _ (field (.ref z) 3 >>= _) _ _ _
  refine wpAny_bind (wpAny_field hz rfl (x := .ref TI) rfl ?_)
  refine wpAny_bind (wpAny_seqItems hTI rfl ?_)
  show wpAny _ _ (Builtin.SmallTypes.ownedTupleIsFree (.ref z) >>= _) _ _ _
  refine wpAny_bind ?_
  unfold Builtin.SmallTypes.ownedTupleIsFree
  refine wpAny_bind (wpAny_field hz rfl (x := .none) rfl (wpAny_pure ?_))
  simp only [if_true]
  refine wpAny_bind (wpAny_rule ?_)
  refine wpAny_bind (wpAny_field hz rfl (x := .ref TO) rfl ?_)
  refine wpAny_bind (wpAny_setField_rec hz (by simp) fun h₁ hz₁ hs₁ => ?_)
  replace hz₁ : IsZip h₁ z TI TO .ellipsis := hz₁
  refine wpAny_bind ?_
  simp only [List.zipIdx_cons, List.zipIdx_nil, List.forIn_cons, List.forIn_nil]
  refine wpAny_bind (wpAny_bind (wpAny_onRaise ?_))
  show wpAny _ _ (Builtin.SmallTypes.nextOf (.ref i1) >>= _) _ _ _
  refine wpAny_bind (f1.item (f1.stay D.i1z D.l1z hs₁.extBut h1) hx fun h₂ h1₂ hs₂ => wpAny_pure ?_)
  have hTO₂ : IsPair h₂ TO a b := hs₂.extBut _ _ D.TOi1 (hs₁.extBut _ _ D.TOz hTO)
  refine wpAny_bind (wpAny_seqItems hTO₂ rfl ?_)
  refine wpAny_bind (wpAny_updateSeq_pair hTO₂ fun h₃ hTO₃ hs₃ => ?_)
  replace hTO₃ : IsPair h₃ TO x b := hTO₃
  refine wpAny_bind (wpAny_letGo (wpAny_pure ?_))
  refine wpAny_bind (wpAny_bind (wpAny_onRaise ?_))
  show wpAny _ _ (Builtin.SmallTypes.nextOf (.ref i2) >>= _) _ _ _
  refine wpAny_bind (f2.item (f2.stay D.TOi2.symm D.l2TO hs₃.extBut (f2.stay D.i12.symm D.l2i1 hs₂.extBut (f2.stay D.i2z D.l2z hs₁.extBut h2))) hy fun h₄ h2₄ hs₄ => wpAny_pure ?_)
  have hTO₄ : IsPair h₄ TO x b := hs₄.extBut _ _ D.TOi2 hTO₃
  refine wpAny_bind (wpAny_seqItems hTO₄ rfl ?_)
  refine wpAny_bind (wpAny_updateSeq_pair hTO₄ fun h₅ hTO₅ hs₅ => ?_)
  replace hTO₅ : IsPair h₅ TO x y := hTO₅
  refine wpAny_bind (wpAny_letGo (wpAny_pure (wpAny_pure ?_)))
  refine wpAny_bind (wpAny_seqItems hTO₅ rfl ?_)
  refine wpAny_bind (wpAny_newTuple ?_)
  have hsz : h₅.objs.size = s.heap.objs.size := by rw [hs₅.1, hs₄.1, hs₃.1, hs₂.1, hs₁.1]
  have hz₅ : IsZip h₅ z TI TO .ellipsis := hs₅.extBut _ _ D.TOz.symm (hs₄.extBut _ _ D.i2z.symm (hs₃.extBut _ _ D.TOz.symm (hs₂.extBut _ _ D.i1z.symm hz₁)))
  have hk₅ : ∀ c o, c ≠ z → c ≠ TO → c ≠ i1 → c ≠ i2 → s.heap.get? c = some o → h₅.get? c = some o := fun c o c1 c2 c3 c4 e =>
    hs₅.extBut _ _ c2 (hs₄.extBut _ _ c4 (hs₃.extBut _ _ c2 (hs₂.extBut _ _ c3 (hs₁.extBut _ _ c1 e))))
  have h1₅ : S1 h₅ (k1 + 1) := f1.stay D.TOi1.symm D.l1TO hs₅.extBut (f1.stay D.i12 D.l1i2 hs₄.extBut (f1.stay D.TOi1.symm D.l1TO hs₃.extBut h1₂))
  have h2₅ : S2 h₅ (k2 + 1) := f2.stay D.TOi2.symm D.l2TO hs₅.extBut h2₄
  have hzlt : z < h₅.objs.size := Heap.lt_size hz₅
  show wpAny _ _ (Builtin.SmallTypes.ownedTupleHandOut (.ref z) (.ref h₅.objs.size) >>= _) _ _ _
  refine wpAny_bind ?_
  unfold Builtin.SmallTypes.ownedTupleHandOut
  have hz₆ : IsZip (h₅.push { cls := .type "tuple", data := .seq #[x, y] }) z TI TO .ellipsis := Heap.get?_push_of_some _ hz₅
  refine wpAny_bind (wpAny_setField_rec hz₆ (by simp) fun h₇ hz₇ hs₇ => ?_)
  replace hz₇ : IsZip h₇ z TI TO (rawInt h₅.objs.size) := hz₇
  refine wpAny_setField_rec hz₇ (by simp) fun h₈ hz₈ hs₈ => ?_
  replace hz₈ : IsZip h₈ z TI TO (rawInt h₅.objs.size) := hz₈
  have up : ∀ c o, c ≠ z → h₅.get? c = some o → h₈.get? c = some o := fun c o c1 e => hs₈.extBut _ _ c1 (hs₇.extBut _ _ c1 (Heap.get?_push_of_some _ e))
  have hT₈ : IsPair h₈ h₅.objs.size x y := hs₈.extBut _ _ (Nat.ne_of_gt hzlt) (hs₇.extBut _ _ (Nat.ne_of_gt hzlt) (Heap.get?_push_size _ rfl))
  have hz8 : h₈.objs.size = h₅.objs.size + 1 := by rw [hs₈.1, hs₇.1, Heap.size_push]
  rw [hsz] at hz₈ hT₈ hz8
  refine wpAny_pure ⟨_, rfl, ?_⟩
  show Q (.ref h₅.objs.size) _
  rw [hsz]
  exact hQ h₈ hz₈ (up _ _ D.TOz hTO₅) (f1.keep h1₅ (fun o e => up _ o D.i1z e) (fun o e => up _ o D.l1z e)) (f2.keep h2₅ (fun o e => up _ o D.i2z e) (fun o e => up _ o D.l2z e)) hT₈ hz8 fun c o c1 c2 c3 c4 e => up c o c1 (hk₅ c o c1 c2 c3 c4 e)
theorem zipF_next_end {Q : Fin → Shared → Prop} (hh : A.handled = none) (D : ZipApart z TI TO i1 i2 l1 l2) (f1 : Feed i1 l1 xs S1) (f2 : Feed i2 l2 ys S2)
    (hz : IsZip s.heap z TI TO .none) (hTI : IsPair s.heap TI (.ref i1) (.ref i2)) (hTO : IsPair s.heap TO a b) (h1 : S1 s.heap k1) (h2 : S2 s.heap k2) (hend : xs[k1]? = none ∨ ys[k2]? = none)
    (hE : ∀ h' e, (∀ c o, c ≠ z → c ≠ TO → c ≠ i1 → c ≠ i2 → s.heap.get? c = some o → h'.get? c = some o) → (∃ o, h'.get? e = some o ∧ o.cls = .type "StopIteration") → E (.ref e) { s with heap := h' }) :
    wpAny (model prog w) A (Builtin.«zip.__next__» ⟨[.ref z], []⟩) Q E s := by
  show wpAny _ _ (field (.ref z) 2 >>= _) _ _ _
  refine wpAny_bind (wpAny_field hz rfl (x := .bool false) rfl ?_)
  show wpAny _ _ (field (.ref z) 3 >>= _) _ _ _
  refine wpAny_bind (wpAny_field hz rfl (x := .ref TI) rfl ?_)
  refine wpAny_bind (wpAny_seqItems hTI rfl ?_)
  show wpAny _ _ (Builtin.SmallTypes.ownedTupleIsFree (.ref z) >>= _) _ _ _
  refine wpAny_bind ?_
  unfold Builtin.SmallTypes.ownedTupleIsFree
  refine wpAny_bind (wpAny_field hz rfl (x := .none) rfl (wpAny_pure ?_))
  simp only [if_true]
  refine wpAny_bind (wpAny_rule ?_)
  refine wpAny_bind (wpAny_field hz rfl (x := .ref TO) rfl ?_)
  refine wpAny_bind (wpAny_setField_rec hz (by simp) fun h₁ hz₁ hs₁ => ?_)
  replace hz₁ : IsZip h₁ z TI TO .ellipsis := hz₁
  refine wpAny_bind ?_
  simp only [List.zipIdx_cons, List.zipIdx_nil, List.forIn_cons, List.forIn_nil]
  refine wpAny_bind (wpAny_bind (wpAny_onRaise ?_))
  show wpAny _ _ (Builtin.SmallTypes.nextOf (.ref i1) >>= _) _ _ _
  cases hx : xs[k1]? with
  | none =>
    refine wpAny_bind (f1.stop hh (f1.stay D.i1z D.l1z hs₁.extBut h1) hx fun h₂ e hs₂ he => ?_)
    obtain ⟨oe, hoe, hce⟩ := he
    have hz₂ : IsZip h₂ z TI TO .ellipsis := hs₂ _ _ D.i1z.symm hz₁
    have hez : e ≠ z := fun x => by subst x; rw [hz₂] at hoe; cases hoe; simp at hce
    refine wpAny_setField_rec hz₂ (by simp) fun h₃ _ hs₃ => hE h₃ e (fun c o c1 _ c3 _ x => hs₃.extBut _ _ c1 (hs₂ _ _ c3 (hs₁.extBut _ _ c1 x))) ⟨oe, hs₃.extBut _ _ hez hoe, hce⟩
  | some x =>
    have hy : ys[k2]? = none := by rcases hend with h | h; rw [hx] at h; cases h; exact h
    refine wpAny_bind (f1.item (f1.stay D.i1z D.l1z hs₁.extBut h1) hx fun h₂ h1₂ hs₂ => wpAny_pure ?_)
    have hTO₂ : IsPair h₂ TO a b := hs₂.extBut _ _ D.TOi1 (hs₁.extBut _ _ D.TOz hTO)
    refine wpAny_bind (wpAny_seqItems hTO₂ rfl ?_)
    refine wpAny_bind (wpAny_updateSeq_pair hTO₂ fun h₃ hTO₃ hs₃ => ?_)
    refine wpAny_bind (wpAny_letGo (wpAny_pure ?_))
    refine wpAny_bind (wpAny_bind (wpAny_onRaise ?_))
    show wpAny _ _ (Builtin.SmallTypes.nextOf (.ref i2) >>= _) _ _ _
    refine wpAny_bind (f2.stop hh (f2.stay D.TOi2.symm D.l2TO hs₃.extBut (f2.stay D.i12.symm D.l2i1 hs₂.extBut (f2.stay D.i2z D.l2z hs₁.extBut h2))) hy fun h₄ e hs₄ he => ?_)
    obtain ⟨oe, hoe, hce⟩ := he
    have hz₄ : IsZip h₄ z TI TO .ellipsis := hs₄ _ _ D.i2z.symm (hs₃.extBut _ _ D.TOz.symm (hs₂.extBut _ _ D.i1z.symm hz₁))
    have hez : e ≠ z := fun x => by subst x; rw [hz₄] at hoe; cases hoe; simp at hce
    refine wpAny_setField_rec hz₄ (by simp) fun h₅ _ hs₅ => hE h₅ e (fun c o c1 c2 c3 c4 x => hs₅.extBut _ _ c1 (hs₄ _ _ c4 (hs₃.extBut _ _ c2 (hs₂.extBut _ _ c3 (hs₁.extBut _ _ c1 x))))) ⟨oe, hs₅.extBut _ _ hez hoe, hce⟩
theorem pyNext_zipF_item {Q : Option Value → Shared → Prop} (D : ZipApart z TI TO i1 i2 l1 l2) (f1 : Feed i1 l1 xs S1) (f2 : Feed i2 l2 ys S2)
    (hz : IsZip s.heap z TI TO .none) (hTI : IsPair s.heap TI (.ref i1) (.ref i2)) (hTO : IsPair s.heap TO a b) (h1 : S1 s.heap k1) (h2 : S2 s.heap k2) (hx : xs[k1]? = some x) (hy : ys[k2]? = some y)
    (hQ : ∀ h', IsZip h' z TI TO (rawInt s.heap.objs.size) → IsPair h' TO x y → S1 h' (k1 + 1) → S2 h' (k2 + 1) → IsPair h' s.heap.objs.size x y → h'.objs.size = s.heap.objs.size + 1 →
      (∀ c o, c ≠ z → c ≠ TO → c ≠ i1 → c ≠ i2 → s.heap.get? c = some o → h'.get? c = some o) → Q (some (.ref s.heap.objs.size)) { s with heap := h' }) :
    wpAny (model prog w) A (pyNext (.ref z)) Q E s := by
  have hT : s.TypeIs (.ref z) "zip" := ⟨_, hz, rfl⟩
  unfold pyNext
  exact wpAny_bind (wpAny_attempt (wpAny_callSpecial?_slot (name := Str.ofString "__next__") hT F.slot_zip_next
    (wpAny_call_entry F.slot_zip_next hT F.entry_zip_next
      (zipF_next_item D f1 f2 hz hTI hTO h1 h2 hx hy fun h' a1 a2 a3 a4 a5 a6 a7 => wpAny_pure (hQ h' a1 a2 a3 a4 a5 a6 a7)) (F.args_zip_next_1 _))))
theorem pyNext_zipF_end {Q : Option Value → Shared → Prop} (hh : A.handled = none) (D : ZipApart z TI TO i1 i2 l1 l2) (f1 : Feed i1 l1 xs S1) (f2 : Feed i2 l2 ys S2)
    (hz : IsZip s.heap z TI TO .none) (hTI : IsPair s.heap TI (.ref i1) (.ref i2)) (hTO : IsPair s.heap TO a b) (h1 : S1 s.heap k1) (h2 : S2 s.heap k2) (hend : xs[k1]? = none ∨ ys[k2]? = none)
    (hQ : ∀ h', (∀ c o, c ≠ z → c ≠ TO → c ≠ i1 → c ≠ i2 → s.heap.get? c = some o → h'.get? c = some o) → Q none { s with heap := h' }) : wpAny (model prog w) A (pyNext (.ref z)) Q E s := by
  have hT : s.TypeIs (.ref z) "zip" := ⟨_, hz, rfl⟩
  unfold pyNext
  refine wpAny_bind (wpAny_attempt (wpAny_callSpecial?_slot (name := Str.ofString "__next__") hT F.slot_zip_next
    (wpAny_call_entry F.slot_zip_next hT F.entry_zip_next (zipF_next_end hh D f1 f2 hz hTI hTO h1 h2 hend fun h' e hk he => ?_) (F.args_zip_next_1 _))))
  obtain ⟨o, ho, hc⟩ := he
  refine wpAny_bind (wpAny_isInstance (T := "StopIteration") (b := true) ⟨o, ho, hc⟩ isSubtype_stop ?_)
  exact wpAny_pure (hQ _ hk)
end
/-- the heaps of zip(list, tuple) being made -/
def zq1 (h : Heap) (l1 : Addr) : Heap := h.push { cls := .type "list_iterator", data := .fields #[.ref l1, .int 0 0] }
def zq2 (h : Heap) (l1 l2 : Addr) : Heap := (zq1 h l1).push { cls := .type "tuple_iterator", data := .fields #[.ref l2, .int 0 0] }
def zq3 (h : Heap) (l1 l2 : Addr) : Heap := (zq2 h l1 l2).push { cls := .type "tuple", data := .seq #[.ref h.objs.size, .ref (zq1 h l1).objs.size] }
def zq4 (h : Heap) (l1 l2 : Addr) : Heap := (zq3 h l1 l2).push { cls := .type "tuple", data := .seq #[.none, .none] }
def zq5 (h : Heap) (l1 l2 : Addr) : Heap := (zq4 h l1 l2).push { cls := .type "zip", data := .fields #[.none, .bool false, .bool false, .ref (zq2 h l1 l2).objs.size, .ref (zq3 h l1 l2).objs.size] }
theorem meets_zipLT (l1 l2 : Addr) (xs ys : Array Value) :
    Meets (Builtin.«zip.__new__» ⟨[.type "zip", .ref l1, .ref l2], []⟩) (fun _ R s => s.heap.IsList l1 xs ∧ s.heap.IsTuple l2 ys ∧
      R (.ok (.ret (.ref (zq4 s.heap l1 l2).objs.size))) { s with heap := zq5 s.heap l1 l2 }) :=
  .of_wp fun prog w A R s h => by
    obtain ⟨hp, g, d, tk, os⟩ := s; obtain ⟨hl1, hl2, h⟩ := h
    have hsub := sub_zip
    have hL1 : Heap.IsList (Shared.heap ⟨hp, g, d, tk, os⟩) l1 xs := hl1
    have hL2 : Heap.IsTuple (Shared.heap ⟨hp.push { cls := .type "list_iterator", data := .fields #[.ref l1, .int 0 0] }, g, d, tk, os⟩) l2 ys := Heap.IsTuple.push hl2 _
    wp_walk using wpAny_pyIter_list hL1, wpAny_pyIter_tuple hL2
    exact ⟨_, rfl, h⟩
section
variable {prog : Program} {w : World} {A : Around} {E : Value → Shared → Prop} {s : Shared}
theorem call_zipLT {l1 l2 : Addr} {xs ys : Array Value} {Q : Value → Shared → Prop} (hl1 : s.heap.IsList l1 xs) (hl2 : s.heap.IsTuple l2 ys)
    (h : ∀ h', IsZip h' (s.heap.objs.size + 4) (s.heap.objs.size + 2) (s.heap.objs.size + 3) .none → IsPair h' (s.heap.objs.size + 2) (.ref s.heap.objs.size) (.ref (s.heap.objs.size + 1)) →
      IsPair h' (s.heap.objs.size + 3) .none .none → h'.IsListIter s.heap.objs.size l1 0 → h'.IsTupleIter (s.heap.objs.size + 1) l2 0 → h'.objs.size = s.heap.objs.size + 5 →
      (∀ c o, s.heap.get? c = some o → h'.get? c = some o) → Q (.ref (s.heap.objs.size + 4)) { s with heap := h' }) :
    wpAny (model prog w) A (call (.type "zip") [.ref l1, .ref l2]) Q E s := by
  refine callType_new F.called_zip (by decide) (F.typeCall_zip_2 _ _) (F.newCall_zip_2 _ _) (fun obj => F.args_object_init_3 obj _ _) F.entry_zip_new
    (meets_zipLT l1 l2 xs ys) ⟨hl1, hl2, ?_⟩
  have z1 : (zq1 s.heap l1).objs.size = s.heap.objs.size + 1 := Heap.size_push ..
  have z2 : (zq2 s.heap l1 l2).objs.size = s.heap.objs.size + 2 := by unfold zq2; rw [Heap.size_push, z1]
  have z3 : (zq3 s.heap l1 l2).objs.size = s.heap.objs.size + 3 := by unfold zq3; rw [Heap.size_push, z2]
  have z4 : (zq4 s.heap l1 l2).objs.size = s.heap.objs.size + 4 := by unfold zq4; rw [Heap.size_push, z3]
  have z5 : (zq5 s.heap l1 l2).objs.size = s.heap.objs.size + 5 := by unfold zq5; rw [Heap.size_push, z4]
  have g5 : (zq5 s.heap l1 l2).get? (zq4 s.heap l1 l2).objs.size = some _ := Heap.get?_push_size _ rfl
  have g4 : (zq5 s.heap l1 l2).get? (zq3 s.heap l1 l2).objs.size = some _ := Heap.get?_push_of_some _ (Heap.get?_push_size _ rfl)
  have g3 : (zq5 s.heap l1 l2).get? (zq2 s.heap l1 l2).objs.size = some _ := Heap.get?_push_of_some _ (Heap.get?_push_of_some _ (Heap.get?_push_size _ rfl))
  have g2 : (zq5 s.heap l1 l2).get? (zq1 s.heap l1).objs.size = some _ := Heap.get?_push_of_some _ (Heap.get?_push_of_some _ (Heap.get?_push_of_some _ (Heap.get?_push_size _ rfl)))
  have g1 : (zq5 s.heap l1 l2).get? s.heap.objs.size = some _ := Heap.get?_push_of_some _ (Heap.get?_push_of_some _ (Heap.get?_push_of_some _ (Heap.get?_push_of_some _ (Heap.get?_push_size _ rfl))))
  show _ ∧ _
  rw [z2, z3, z4] at g5
  rw [z1, z2] at g3
  rw [z3] at g4
  rw [z1] at g2
  rw [z4]
  exact ⟨⟨_, g5, rfl⟩, h _ g5 g3 g4 ⟨_, g1, rfl, rfl⟩ ⟨_, g2, rfl, rfl⟩ z5 fun c o x =>
    Heap.get?_push_of_some _ (Heap.get?_push_of_some _ (Heap.get?_push_of_some _ (Heap.get?_push_of_some _ (Heap.get?_push_of_some _ x))))⟩
end
end Z
namespace Z
open PySem PySem.Spec PyProof.Rows L2
/-- the list at a and the tuple at b as they stand at each turn, the items in new pairs -/
def ItzM (K : PySem.W.Frag) (a b : Addr) : It :=
  ⟨fun i H => ∃ (xs ys : List V) (x y : V), SqL K H a xs ∧ SqT K H b ys ∧ xs[i]? = some x ∧ ys[i]? = some y,
    fun i H v H' => ∃ T x y, v = .ref T ∧ H T = none ∧ H' = upd H T (.tup [x, y]) ∧ (∀ xs, SqL K H a xs → xs[i]? = some x) ∧ ∀ ys, SqT K H b ys → ys[i]? = some y,
    fun i H => ∃ xs ys : List V, SqL K H a xs ∧ SqT K H b ys ∧ (xs.length ≤ i ∨ ys.length ≤ i)⟩
theorem turn_zipM {P : Program} {w : World} {K : PySem.W.Frag} {elts : List Expr} {kk : Nat} {tpos : Pos} {a b z TI TO i1 i2 : Addr} (D : ZipApart z TI TO i1 i2 a b) :
    Turn P w K (.Tuple elts kk tpos) (ItzM K a b) [z, TI, TO, i1, i2] z (fun i h => IsZip h z TI TO .none ∧ IsPair h TI (.ref i1) (.ref i2) ∧ (∃ x y, IsPair h TO x y) ∧ h.IsListIter i1 a i ∧ h.IsTupleIter i2 b i) where
  mem := by simp
  obj := fun i h st c hc => by
    obtain ⟨hz, hTI, ⟨x, y, hTO⟩, ⟨o1, e1, _, d1⟩, ⟨o2, e2, _, d2⟩⟩ := st
    have e' : c = z ∨ c = TI ∨ c = TO ∨ c = i1 ∨ c = i2 := by simpa using hc
    rcases e' with q | q | q | q | q
    · rw [q]; exact ⟨_, hz, fun v q => nomatch q⟩
    · rw [q]; exact ⟨_, hTI, fun v q => nomatch q⟩
    · rw [q]; exact ⟨_, hTO, fun v q => nomatch q⟩
    · rw [q]; exact ⟨o1, e1, fun v q => by rw [d1] at q; cases q⟩
    · rw [q]; exact ⟨o2, e2, fun v q => by rw [d2] at q; cases q⟩
  keep := fun i h h' st k => by
    obtain ⟨hz, hTI, ⟨x, y, hTO⟩, h1, h2⟩ := st
    exact ⟨k z (by simp) _ hz, k TI (by simp) _ hTI, ⟨x, y, k TO (by simp) _ hTO⟩, h1.at fun o q => k i1 (by simp) o q, let ⟨o, e, r⟩ := h2; ⟨o, k i2 (by simp) o e, r⟩⟩
  item := by
    intro X hP hw hK hc i pins s σ H E I hf st hg
    subst hP hw hK
    obtain ⟨hz, hTI, ⟨x0, y0, hTO⟩, h1, h2⟩ := st
    obtain ⟨xs, ys, x, y, hqx, hqy, hx, hy⟩ := hg
    obtain ⟨its, rv, p, _⟩ := I.list hqx
    obtain ⟨its2, rv2, p2, _⟩ := I.tuple hqy
    obtain ⟨u, hu, ru⟩ := rv.get hx
    obtain ⟨u2, hu2, ru2⟩ := rv2.get hy
    have hzl : z < s.heap.objs.size := Heap.lt_size hz
    refine pyNext_zipF_item D (feed_list (xs := its.toArray) D.l1i1) (feed_tuple (xs := its2.toArray) D.l2i2) hz hTI hTO ⟨h1, p.isList⟩ ⟨h2, p2⟩ (x := u) (y := u2) (by simpa using hu) (by simpa using hu2) fun h' z' TO' h1' h2' hT hsz hk => ?_
    refine ⟨_, rfl, wpAny_letOwnedTupleGo_zip (s := { s with heap := h' }) z' fun h'' z'' sb => ?_⟩
    have hT2 : h''.get? s.heap.objs.size = some { cls := .type "tuple", data := .seq #[u, u2] } := (sb.2 _ (Nat.ne_of_gt hzl)).trans hT
    have new : ObjOk X.prog X.w (upd H s.heap.objs.size (.tup [x, y])) h'' s.heap.objs.size (.tup [x, y]) :=
      ⟨by show 2 ≤ sizeLine; decide, [u, u2], .cons ru (.cons ru2 .nil), ⟨_, hT2, rfl, _, rfl⟩⟩
    have I1 : Inv X pins σ (upd H s.heap.objs.size (.tup [x, y])) { s with heap := h'' } :=
      I.turnedNew (t' := s.toks) (ch := [z, TI, TO, i1, i2]) (fun c o hb q => (sb.2 c (fun q' => hb (by simp [q']))).trans (hk c o (fun q' => hb (by simp [q'])) (fun q' => hb (by simp [q'])) (fun q' => hb (by simp [q'])) (fun q' => hb (by simp [q'])) q)) hf (Nat.le_refl _) new
    refine ⟨.ref s.heap.objs.size, _, I1, rfl, ⟨_, x, y, rfl, I.hok.fresh (Nat.le_refl _), rfl, fun l hl => by rw [I.list_inj hl hqx]; exact hx, fun l hl => by rw [I.tuple_inj hl hqy]; exact hy⟩, ⟨z'', ?_, ⟨u, u2, ?_⟩, ?_, ?_⟩, fun c hcm => ?_⟩
    · exact (sb.2 _ D.TIz).trans (hk _ _ D.TIz D.TITO D.TIi1 D.TIi2 hTI)
    · exact (sb.2 _ D.TOz).trans TO'
    · exact h1'.1.at fun o q => (sb.2 _ D.i1z).trans q
    · obtain ⟨o, e, r⟩ := h2'.1
      exact ⟨o, (sb.2 _ D.i2z).trans e, r⟩
    · have hlt : c < s.heap.objs.size := by
        have e' : c = z ∨ c = TI ∨ c = TO ∨ c = i1 ∨ c = i2 := by simpa using hcm
        rcases e' with q | q | q | q | q
        · rw [q]; exact hzl
        · rw [q]; exact Heap.lt_size hTI
        · rw [q]; exact Heap.lt_size hTO
        · rw [q]; obtain ⟨_, e1, _⟩ := h1; exact Heap.lt_size e1
        · rw [q]; obtain ⟨_, e2, _⟩ := h2; exact Heap.lt_size e2
      rw [upd_ne (Nat.ne_of_lt hlt)]
      exact (hf c hcm).1
  done := by
    intro X hP hw hK hc i pins s σ H E I hf st hg
    subst hP hw hK
    obtain ⟨hz, hTI, ⟨x0, y0, hTO⟩, h1, h2⟩ := st
    obtain ⟨xs, ys, hqx, hqy, hend⟩ := hg
    obtain ⟨its, rv, p, _⟩ := I.list hqx
    obtain ⟨its2, rv2, p2, _⟩ := I.tuple hqy
    have l1 := rv.length
    have l2 := rv2.length
    have he : its.toArray[i]? = none ∨ its2.toArray[i]? = none := by
      rcases hend with q | q
      · exact .inl (by simp; omega)
      · exact .inr (by simp; omega)
    exact pyNext_zipF_end (I.ok.hd hc) D (feed_list (xs := its.toArray) D.l1i1) (feed_tuple (xs := its2.toArray) D.l2i2) hz hTI hTO ⟨h1, p.isList⟩ ⟨h2, p2⟩ he fun h' hk => ⟨rfl, I.turnedL (t' := s.toks) (ch := [z, TI, TO, i1, i2]) (fun c o hb q =>
      hk c o (fun q' => hb (by simp [q'])) (fun q' => hb (by simp [q'])) (fun q' => hb (by simp [q'])) (fun q' => hb (by simp [q'])) q) hf⟩
  self := fun A i s Q E st h => wpAny_pyIter_zip st.1 h
def iZipM (K : PySem.W.Frag) (ta : TA) : TI := fun σ H R => ta σ H fun vs H1 => ∃ a b xs ys, vs = [.ref a, .ref b] ∧ ((SqL K H1 a xs ∧ SqL K H1 b ys ∧ R (Itz K a b) H1) ∨ (SqL K H1 a xs ∧ SqT K H1 b ys ∧ R (ItzM K a b) H1))
theorem pi_zipM {X : Cx} {e e2 : Expr} {ta : TA} {p pos tpos : Pos} {elts : List Expr} {kk : Nat} (hg : Gl X "zip") (hm : X.mg "zip" = none) (ha : PA X [e, e2] ta)
    (hs : starEach [e, e2] X.env = (false, eval e X.env) :: starEach [e2] X.env := by rfl) (hpl : (backTo pos (starEach [e2] X.env)).any (·.1) = false := by rfl) :
    PI X (.Tuple elts kk tpos) (.Call (.Name "zip" p) [e, e2] [] pos) (iZipM X.K ta) := by
  refine ⟨fun pins s σ H R I h => ?_⟩
  refine Call_ (ld_blt I hg hm PyProof.Rows.boot_zip (PyProof.Rows.callWith_type1 (thn (ha.run pos pins s σ H _ I h) fun us s1 ⟨vs, H1, I1, r1, q1⟩ => ?_) hs hpl))
  obtain ⟨a, b, xs, ys, ex, q1⟩ := q1
  subst ex
  cases r1 with
  | cons r rr =>
    cases rr with
    | cons r' rr =>
      cases rr
      cases r
      cases r'
      have fresh5 : ∀ c, c ∈ [s1.heap.objs.size + 4, s1.heap.objs.size + 2, s1.heap.objs.size + 3, s1.heap.objs.size, s1.heap.objs.size + 1] → FpOk X pins H1 c := fun c hcm => by
        have e' : c = s1.heap.objs.size + 4 ∨ c = s1.heap.objs.size + 2 ∨ c = s1.heap.objs.size + 3 ∨ c = s1.heap.objs.size ∨ c = s1.heap.objs.size + 1 := by simpa using hcm
        have hle : s1.heap.objs.size ≤ c := by omega
        exact I1.fpOk hle (I1.hok.fresh hle)
      rcases q1 with ⟨hqx, hqy, q⟩ | ⟨hqx, hqy, q⟩
      · obtain ⟨its, rv, p1, _⟩ := I1.list hqx
        obtain ⟨its2, rv2, p2, _⟩ := I1.list hqy
        refine call_zip_2 p1.isList p2.isList fun h' hz hTI hTO h1 h2 hsz hk => wpAny_pyIter_zip hz ?_
        have I2 : Inv X pins σ H1 { s1 with heap := h' } := I1.kept (t' := s1.toks) hk
        exact ⟨s1.heap.objs.size + 4, [s1.heap.objs.size + 4, s1.heap.objs.size + 2, s1.heap.objs.size + 3, s1.heap.objs.size, s1.heap.objs.size + 1], _, _, H1, rfl, I2, turn_zip (PySem.W.ktu_apart s1.heap.objs.size a b p1.lt p2.lt), ⟨hz, hTI, ⟨_, _, hTO⟩, h1, h2⟩, fresh5, q⟩
      · obtain ⟨its, rv, p1, _⟩ := I1.list hqx
        obtain ⟨its2, rv2, p2, _⟩ := I1.tuple hqy
        obtain ⟨o2, ho2, _⟩ := id p2
        refine call_zipLT p1.isList (show s1.heap.IsTuple b its2.toArray from p2) fun h' hz hTI hTO h1 h2 hsz hk => wpAny_pyIter_zip hz ?_
        have I2 : Inv X pins σ H1 { s1 with heap := h' } := I1.kept (t' := s1.toks) hk
        exact ⟨s1.heap.objs.size + 4, [s1.heap.objs.size + 4, s1.heap.objs.size + 2, s1.heap.objs.size + 3, s1.heap.objs.size, s1.heap.objs.size + 1], _, _, H1, rfl, I2, turn_zipM (PySem.W.ktu_apart s1.heap.objs.size a b p1.lt (Heap.lt_size ho2)), ⟨hz, hTI, ⟨_, _, hTO⟩, h1, h2⟩, fresh5, q⟩
section
variable {G : Gx} {X : Cx} {W : WX} {a b : Expr} {fr : Fz (List Sv)} {p pos : Pos}
/-- zip of a list, or a tree of one, and a list or a tree of a tuple -/
def zipMO (as : List Sv) (μ : Mu) : Rz Wk := match as with
  | [u, .d (.tup es)] => match lstC u μ with
    | some k => match toDs k.items with
      | some ds => some (.ok ⟨zipI ds es, k.chk⟩, μ)
      | none => none
    | none => none
  | [u, v] => match lstC u μ, lstC v μ with
    | some k, some m => match toDs k.items, toDs m.items with
      | some ds, some es => some (.ok ⟨zipI ds es, fun μ => k.chk μ ∧ m.chk μ⟩, μ)
      | _, _ => none
    | _, _ => none
  | _ => none
def fZipM (fr : Fz (List Sv)) : Fz Wk := fun δ μ => (fr δ μ).bind fun as μ => zipMO as μ
theorem zi_zipM (hK : G.K = X.K) {elts : List Expr} {kk : Nat} {tpos : Pos} (hg : Gl X "zip") (hm : X.mg "zip" = none) (ha : PA X [a, b] (zA G W fr)) (hs : starEach [a, b] X.env = (false, eval a X.env) :: starEach [b] X.env := by rfl) (hpl : (backTo pos (starEach [b] X.env)).any (·.1) = false := by rfl) :
    PI X (.Tuple elts kk tpos) (.Call (.Name "zip" p) [a, b] [] pos) (zW G W (fZipM fr)) := piImp (pi_zipM hg hm ha hs hpl) fun σ H R q => by
  obtain ⟨F, ρ, δ, μ, rr, w, s, e, p⟩ := q
  refine zstep w s e p fun sa μ1 x F1 ρ1 H1 g1 w1 s1 rx e1 p1 => ?_
  unfold zipMO at e1
  split at e1
  · rename_i u es
    split at e1
    · rename_i k hk
      split at e1
      · rename_i ds hd
        cases e1
        cases rx with
        | cons r t => cases t with
          | cons r' t =>
            cases t
            cases r' with
            | d r' =>
            obtain ⟨l, vs, rfl, h1, h2, hc, hh⟩ := lstC_at w1 r hk
            cases r' with
            | tup q1 q2 =>
            rename_i l' vs'
            refine ⟨l, l', vs, vs', rfl, .inr ⟨by rw [← hK]; exact h1, by rw [← hK]; exact w1.ex.t q1, ?_⟩⟩
            rw [← hK]
            refine p1.ok w1 (fun F' ρ' μ' H' g w' c i => ?_)
            obtain ⟨ws, r1, r2⟩ := hh F' ρ' μ' H' g w' c
            have r3 := w'.ex.t (g.f.t q1)
            have r4 := q2.mono g.f
            rw [of_toDs hd] at r2
            have hl := r2.len
            have hl' := r4.len
            rw [List.length_map] at hl
            refine ⟨fun hi => ⟨ws, vs', r1, r3, by rw [zipI_len] at hi; rw [hl, hl']; omega⟩, fun y hy => ?_⟩
            rw [zipI_get] at hy
            cases hd1 : ds[i]? with
            | none => rw [hd1] at hy; cases hy
            | some d =>
              cases hd2 : es[i]? with
              | none => rw [hd1, hd2] at hy; cases hy
              | some d2 =>
                rw [hd1, hd2] at hy
                have hy' : Sv.d (.tup [d, d2]) = y := Option.some.inj hy
                subst hy'
                obtain ⟨u, hu, ru⟩ := RsL.get r2 (show (ds.map Sv.d)[i]? = some (.d d) by rw [List.getElem?_map, hd1]; rfl)
                obtain ⟨u2, hu2, ru2⟩ := RsL.get (RsL.ofD (ρ := ρ') r4) (show (es.map Sv.d)[i]? = some (.d d2) by rw [List.getElem?_map, hd2]; rfl)
                refine ⟨⟨ws, vs', u, u2, r1, r3, hu, hu2⟩, fun x H'' ⟨T, z, z2, ev, hT, eH, hx, hx2⟩ => ?_⟩
                have e1 := hx ws r1
                rw [hu] at e1; cases e1
                have e2 := hx2 vs' r3
                rw [hu2] at e2; cases e2
                subst ev eH
                obtain ⟨w2, g2⟩ := w'.newD hT (.tup [u, u2])
                refine ⟨_, ρ', g2, w2, .d (.tup (SqT.of upd_same) ?_)⟩
                cases ru with
                | d ru => cases ru2 with
                  | d ru2 => exact .cons (ru.mono g2.f) (.cons (ru2.mono g2.f) .nil)
      · cases e1
    · cases e1
  · split at e1
    · rename_i u v _ k m hk hm'
      split at e1
      · rename_i ds es hd he
        cases e1
        cases rx with
        | cons r t => cases t with
          | cons r' t =>
            cases t
            obtain ⟨l, vs, rfl, h1, h2, hc, hh⟩ := lstC_at w1 r hk
            obtain ⟨l', vs', rfl, h1', h2', hc', hh'⟩ := lstC_at w1 r' hm'
            refine ⟨l, l', vs, vs', rfl, .inl ⟨by rw [← hK]; exact h1, by rw [← hK]; exact h1', ?_⟩⟩
            rw [← hK]
            refine p1.ok w1 (fun F' ρ' μ' H' g w' c i => ?_)
            obtain ⟨ws, r1, r2⟩ := hh F' ρ' μ' H' g w' c.1
            obtain ⟨ws', r3, r4⟩ := hh' F' ρ' μ' H' g w' c.2
            rw [of_toDs hd] at r2
            rw [of_toDs he] at r4
            have hl := r2.len
            have hl' := r4.len
            rw [List.length_map] at hl hl'
            refine ⟨fun hi => ⟨ws, ws', r1, r3, by rw [zipI_len] at hi; rw [hl, hl']; omega⟩, fun y hy => ?_⟩
            rw [zipI_get] at hy
            cases hd1 : ds[i]? with
            | none => rw [hd1] at hy; cases hy
            | some d =>
              cases hd2 : es[i]? with
              | none => rw [hd1, hd2] at hy; cases hy
              | some d2 =>
                rw [hd1, hd2] at hy
                have hy' : Sv.d (.tup [d, d2]) = y := Option.some.inj hy
                subst hy'
                obtain ⟨u, hu, ru⟩ := RsL.get r2 (show (ds.map Sv.d)[i]? = some (.d d) by rw [List.getElem?_map, hd1]; rfl)
                obtain ⟨u2, hu2, ru2⟩ := RsL.get r4 (show (es.map Sv.d)[i]? = some (.d d2) by rw [List.getElem?_map, hd2]; rfl)
                refine ⟨⟨ws, ws', u, u2, r1, r3, hu, hu2⟩, fun x H'' ⟨T, z, z2, ev, hT, eH, hx, hx2⟩ => ?_⟩
                have e1 := hx ws r1
                rw [hu] at e1; cases e1
                have e2 := hx2 ws' r3
                rw [hu2] at e2; cases e2
                subst ev eH
                obtain ⟨w2, g2⟩ := w'.newD hT (.tup [u, u2])
                refine ⟨_, ρ', g2, w2, .d (.tup (SqT.of upd_same) ?_)⟩
                cases ru with
                | d ru => cases ru2 with
                  | d ru2 => exact .cons (ru.mono g2.f) (.cons (ru2.mono g2.f) .nil)
      · cases e1
    · cases e1
  · cases e1
end
section
variable {P : Except Exn Wk → Mu → Prop} {δ : Dl} {μ : Mu}
@[simp] theorem Ev_zipM (fr : Fz (List Sv)) : Ev (fZipM fr δ μ) P = Ev (fr δ μ) (fun e μ => okc e (fun a => Ev (zipMO a μ) P) (fun x => P (.error x) μ)) := by
  show Ev (Rz.bind _ (fun a μ => zipMO a μ)) _ = _
  rw [Ev_bind]
@[simp] theorem zipMO_lt (l m : List D) : zipMO [.d (.lst l), .d (.tup m)] μ = some (.ok ⟨zipI l m, fun _ => True⟩, μ) := by
  show (match toDs (l.map Sv.d) with
      | some ds => some (Except.ok (⟨zipI ds m, fun _ => True⟩ : Wk), μ)
      | none => none) = _
  rw [toDs_map]
@[simp] theorem zipMO_ll (l m : List D) : zipMO [.d (.lst l), .d (.lst m)] μ = some (.ok ⟨zipI l m, fun _ => True⟩, μ) := by
  show (match toDs (l.map Sv.d), toDs (m.map Sv.d) with
      | some ds, some es => some (Except.ok (⟨zipI ds es, fun _ => True ∧ True⟩ : Wk), μ)
      | _, _ => none) = _
  rw [toDs_map, toDs_map]; simp
theorem zipMO_cl {n : Nat} {xs m : List D} (h : μ[n]? = some (.lst (xs.map Sv.d))) : zipMO [.c n, .d (.lst m)] μ = some (.ok ⟨zipI xs m, fun μ => μ[n]? = some (.lst (xs.map Sv.d))⟩, μ) := by
  simp [zipMO, lstC, h, toDs_map]
end
end Z
namespace Z
open PySem PySem.Spec PyProof.Rows L2
section
variable {G : Gx} {X : Cx} {W : WX} {F : Hp} {ρ : List Addr} {μ : Mu} {H : Hp} {a b : Expr} {fa fb : Fz Sv} {p2 pos : Pos}
/-! ## tuples: +, any slice, [::-1]; list * int -/
def oAddA : Op2 := fun a b μ => match a, b with
  | .d (.tup a), .d (.tup b) => if a.length + b.length ≤ 16777216 then okz (.tup (a ++ b)) μ else none
  | a, b => oAdd a b μ
theorem so_addA (hK : G.K = X.K) : SOp2 G W (fun x y H Q => rAddZ X.K x y H Q ∨ rCatA X.K x y H Q) oAddA := by
  intro F ρ μ H σ x y a b rr Q w rx ry h p
  unfold oAddA at h
  split at h
  · split at h
    · rename_i hl
      cases h
      cases rx with
      | d rx =>
        cases ry with
        | d ry =>
          have rx0 := rx
          have ry0 := ry
          cases rx with
          | tup h1 h2 =>
            cases ry with
            | tup h3 h4 =>
              have t1 := w.ex.t h1
              have t2 := w.ex.t h3
              rw [hK] at t1 t2
              have n1 := h2.len
              have n2 := h4.len
              refine .inr ⟨_, _, _, _, rfl, rfl, t1, t2, by rw [n1, n2, szl]; exact hl, fun z => ?_, fun _ z => ?_, fun _ _ q hq => ?_⟩
              · subst z
                cases h2
                rw [List.nil_append] at p
                exact p.ok w (.d ry0)
              · subst z
                cases h4
                rw [List.append_nil] at p
                exact p.ok w (.d rx0)
              · obtain ⟨w2, g2⟩ := w.newD hq (.tup _)
                exact p _ _ _ _ g2 w2 (.d (.tup (SqT.of upd_same) (RpL.mono g2.f (by
                  have := (RsL.ofD (ρ := ρ) h2).app (RsL.ofD h4)
                  rw [← List.map_append] at this
                  exact RsL.toD this))))
    · cases h
  · exact .inl (so_add hK F ρ _ H σ x y _ _ rr Q w rx ry h p)
theorem op_addA : OpR X (binaryOp .Add) (fun x y H Q => rAddZ X.K x y H Q ∨ rCatA X.K x y H Q) := orR op_addZ op_catA
def oSlA (x : Sv) (lo hi : Option Int) (μ : Mu) : Rz Sv := match x with
  | .d (.tup l) => okz (.tup (cutL l lo hi)) μ
  | x => oSl x lo hi μ
def fSlA (fa : Fz Sv) (fl fh : Fz (Option Int)) : Fz Sv := fun δ μ => (fa δ μ).bind fun a μ => (fl δ μ).bind fun lo μ => (fh δ μ).bind fun hi μ => oSlA a lo hi μ
theorem cutL_whole {α : Type} {l : List α} {lo hi : Option Int} (h : HT.sIx l.length 0 lo = 0 ∧ HT.sIx l.length l.length hi = l.length) : cutL l lo hi = l := by
  unfold cutL
  rw [h.1, h.2]; simp
theorem z_slA (hK : G.K = X.K) {lo hi : Option Expr} {fl fh : Fz (Option Int)} (ha : PE X a (zE G W fa)) (hl : PO X lo (zO G W fl)) (hh : PO X hi (zO G W fh)) : PE X (.Subscript a (.Slice lo hi none p2) pos) (zE G W (fSlA fa fl fh)) := peImp (pe_slice (sl_Z.or sl_tupA) ha hl hh) fun σ H Q q => by
  obtain ⟨F, ρ, δ, μ, rr, w, s, e, p⟩ := q
  refine zstep w s e p fun sa μ1 x F1 ρ1 H1 g1 w1 s1 rx e1 p1 => ?_
  refine zstep w1 s1 e1 p1 fun lov μ2 lo' F2 ρ2 H2 g2 w2 s2 rlo e2 p2 => ?_
  refine zstep w2 s2 e2 p2 fun hiv μ3 hi' F3 ρ3 H3 g3 w3 s3 rhi e3 p3 => ?_
  subst rlo rhi
  have rx3 := rx.mono (g2.trans g3)
  unfold oSlA at e3
  split at e3
  · cases e3
    cases rx3 with
    | d rx3 =>
      have rx0 := rx3
      cases rx3 with
      | tup h1 h2 =>
        have t1 := w3.ex.t h1
        rw [hK] at t1
        refine .inr ⟨_, _, rfl, t1, fun z => ?_, fun z q hq => ?_⟩
        · rw [h2.len] at z
          rw [cutL_whole z] at p3
          exact p3.ok w3 (.d rx0)
        · obtain ⟨w4, g4⟩ := w3.newD hq (.tup (cutV _ lo' hi'))
          have rr := (RsL.ofD (ρ := ρ3) h2).cut lo' hi'
          rw [cutL_map] at rr
          exact p3 _ _ _ _ g4 w4 (.d (.tup (SqT.of upd_same) ((RsL.toD rr).mono g4.f)))
  · exact .inl (oSl_at hK w3 rx3 e3 p3)
/-- a list * an int -/
def oRep : Op2 := fun a b μ => match a, b with
  | .c n, .d (.int k) => match μ[n]? with
    | some (.lst xs) => match toDs xs with
      | some ds => if -(2 ^ 63) ≤ k ∧ k < 2 ^ 63 ∧ xs.length * k.toNat ≤ 16777216 then okz (.lst (List.replicate k.toNat ds).flatten) μ else none
      | none => none
    | _ => none
  | _, _ => none
theorem rpl_rep {vs : List V} {ds : List D} (h : RpL G F vs ds) : ∀ k : Nat, RpL G F (List.replicate k vs).flatten (List.replicate k ds).flatten
  | 0 => .nil
  | k + 1 => by
    rw [List.replicate_succ, List.replicate_succ, List.flatten_cons, List.flatten_cons]
    have := (RsL.ofD (ρ := []) h).app (RsL.ofD (rpl_rep h k))
    rw [← List.map_append] at this
    exact RsL.toD this
theorem so_rep : SOp2 G W rRep oRep := by
  intro F ρ μ H σ x y a b rr Q w rx ry h p
  unfold oRep at h
  split at h
  · rename_i n kk
    split at h
    · rename_i xs hx
      split at h
      · rename_i ds hd
        split at h
        · rename_i hl
          cases h
          cases rx with
          | c hr =>
            cases ry with
            | d ry => cases ry with
              | int =>
                obtain ⟨h0, ws, h1, h2⟩ := w.cell _ _ _ hr hx
                have h3 := h2
                rw [of_toDs hd] at h3
                refine ⟨_, _, _, rfl, rfl, h1, hl.1, hl.2.1, by rw [h2.len, szl]; exact hl.2.2, fun q hq => ?_⟩
                obtain ⟨w2, g2⟩ := w.newD hq (.lst (List.replicate kk.toNat ws).flatten)
                exact p _ _ _ _ g2 w2 (.d (.lst (SqL.of upd_same) ((rpl_rep (RsL.toD h3) _).mono g2.f)))
        · cases h
      · cases h
    · cases h
  · cases h
end
section
variable {prog : Program} {w : World} {A : Around} {E : Value → Shared → Prop} {s : Shared}
theorem sliceApplied_rev {sl : Addr} {vl vu vs : Value} {n : Nat} {Q : Int × Int × Nat → Shared → Prop} (hs : s.heap.IsSliceOf sl vl vu vs) (pl : IsPart vl none) (pu : IsPart vu none) (ps : IsPart vs (some (-1)))
    (h : Q ((n : Int) - 1, -1, n) s) : wpAny (model prog w) A (Builtin.Slice.sliceApplied (.ref sl) (pure (n : Int))) Q E s := by
  obtain ⟨os, hos, hcs, hds⟩ := id hs
  unfold Builtin.Slice.sliceApplied Builtin.Slice.sliceFields
  refine wpAny_bind (wpAny_bind (wpAny_field hos hds (x := vl) rfl (wpAny_bind (wpAny_field hos hds (x := vu) rfl (wpAny_bind (wpAny_field hos hds (x := vs) rfl (wpAny_pure ?_)))))))
  refine wpAny_bind (HT.slicePart_ ps ?_)
  show wpAny _ _ (if ((-1 : Int) == 0) = true then _ else _) _ _ s
  rw [if_neg (by decide)]
  refine wpAny_bind (HT.slicePart_ pl (wpAny_bind (HT.slicePart_ pu (wpAny_bind (wpAny_pure ?_)))))
  have e : Builtin.Slice.sliceAdjust none none (-1) (n : Int) = ((n : Int) - 1, -1) := by
    unfold Builtin.Slice.sliceAdjust
    simp
  show wpAny _ _ (match Builtin.Slice.sliceAdjust none none (-1) (n : Int) with | (lo, hi) => pure (lo, (-1 : Int), Builtin.Slice.slicePlaces lo hi (-1))) _ _ s
  rw [e]
  have e2 : Builtin.Slice.slicePlaces ((n : Int) - 1) (-1) (-1) = n := by
    unfold Builtin.Slice.slicePlaces
    simp
    omega
  show wpAny _ _ (pure ((n : Int) - 1, (-1 : Int), Builtin.Slice.slicePlaces ((n : Int) - 1) (-1) (-1))) _ _ s
  rw [e2]
  exact wpAny_pure h
theorem pick_rev (xs : List Value) : ((List.range xs.length).filterMap fun (m : Nat) => xs.toArray[(((xs.length : Int) - 1) + (m : Int) * (-1)).toNat]?) = xs.reverse := by
  have e1 : ∀ m ∈ List.range xs.length, (fun (m : Nat) => xs.toArray[(((xs.length : Int) - 1) + (m : Int) * (-1)).toNat]?) m = some (xs.reverse.getD m .none) := by
    intro m hm
    have hm' := List.mem_range.mp hm
    have e : (((xs.length : Int) - 1) + (m : Int) * (-1)).toNat = xs.length - 1 - m := by omega
    simp only [e]
    rw [List.getD_eq_getElem?_getD, List.getElem?_reverse hm']
    simp only [List.getElem?_toArray]
    rw [List.getElem?_eq_getElem (by omega)]; rfl
  rw [fm_map e1]
  apply List.ext_getElem?
  intro j
  by_cases hj : j < xs.length
  · rw [List.getElem?_map, List.getElem?_range hj]
    simp only [Option.map_some]
    rw [List.getD_eq_getElem?_getD, List.getElem?_eq_getElem (by simpa using hj)]
    simp
  · rw [List.getElem?_eq_none (by simp; omega), List.getElem?_eq_none (by simp; omega)]
theorem getItem_tuple_rev {t sl : Addr} {items : List Value} {vl vu vs : Value} {Q : Value → Shared → Prop} (ht : IsTup s.heap t items.toArray) (hs : s.heap.IsSliceOf sl vl vu vs) (pl : IsPart vl none) (pu : IsPart vu none) (ps : IsPart vs (some (-1)))
    (h : Q (.ref s.heap.objs.size) { s with heap := s.heap.push { cls := .type "tuple", data := .seq items.reverse.toArray } })
    (hsz : items.length ≤ sizeLine) : wpAny (model prog w) A (getItem (.ref t) (.ref sl)) Q E s := by
  have htake : sizeOk (.seq items.reverse.toArray) := by
    show items.reverse.toArray.size ≤ sizeLine
    simpa using hsz
  obtain ⟨os, hos, hcs, hds⟩ := id hs
  have hTs : s.TypeIs (.ref sl) "slice" := ⟨os, hos, hcs⟩
  unfold getItem
  try with_reducible refine wpAny_holding ?_
  first | refine wpAny_bind (wpAny_pure ?_) | skip
  refine wpAny_bind (wpAny_sequenceKey ht.typeIs (by decide) ?_)
  refine wpAny_bind (wpAny_callSpecial?_slot (name := Str.ofString "__getitem__") ht.typeIs PyProof.Rows.slot_tuple_getitem
    (wpAny_call_entry PyProof.Rows.slot_tuple_getitem ht.typeIs entry_tuple_getitem ?_ (args_tuple_getitem _ _)))
  show wpAny _ _ (Builtin.Tuple.tupleItemsOf (.ref t) >>= _) _ _ s
  refine wpAny_bind (tupleItemsOf_ ht ?_)
  refine wpAny_bind (wpAny_typeOf hTs ?_)
  rw [if_pos (by decide)]
  refine wpAny_bind (sliceApplied_rev hs pl pu ps ?_)
  have hno : ¬ ((((items.toArray.size : Int) - 1) == 0 && (-1 : Int) == 1 && items.toArray.size == items.toArray.size) = true) := by
    simp
  show wpAny _ _ (if ((((items.toArray.size : Int) - 1) == 0 && (-1 : Int) == 1 && items.toArray.size == items.toArray.size)) = true then _ else _) _ _ s
  rw [if_neg hno]
  simp only [List.size_toArray]
  rw [pick_rev]
  first
    | exact wpAny_bind (m := Builtin.Tuple.tupleExact _) (wpAny_newObj_type (wpAny_pure ⟨_, rfl, wpAny_pure h⟩) htake)
    | exact wpAny_bind (m := Builtin.Tuple.tupleExact _) (wpAny_newObj_type (wpAny_bind (wpAny_pure (wpAny_pure ⟨_, rfl, wpAny_pure h⟩))) htake)
    | exact wpAny_bind (wpAny_bind (m := Builtin.Tuple.tupleExact _) (wpAny_newObj_type (wpAny_pure (wpAny_pure ⟨_, rfl, wpAny_pure h⟩)) htake))
    | exact wpAny_bind (wpAny_bind (m := Builtin.Tuple.tupleExact _) (wpAny_newObj_type (wpAny_pure ⟨_, rfl, wpAny_pure h⟩) htake))
end
section
variable {G : Gx} {X : Cx} {W : WX} {F : Hp} {ρ : List Addr} {μ : Mu} {H : Hp} {e : Expr} {fa fb : Fz Sv} {p2 pos : Pos}
def tRevT (K : PySem.W.Frag) (te : TE) : TE := fun σ H Q => te σ H fun x H1 => ∃ a xs, x = .ref a ∧ SqT K H1 a xs ∧ ∀ q, H1 q = none → Q (.ref q) (upd H1 q (.tup xs.reverse))
theorem pe_revT {te : TE} {k : Nat} {p1 p3 : Pos} (he : PE X e te) : PE X (.Subscript e (.Slice none none (some (.UnaryOp .USub (.Constant (.int 1) k p1) p2)) p3) pos) (tRevT X.K te) := by
  refine ⟨fun pins s σ H Q I h => ?_⟩
  refine Subscript_ (thn (he.run pins s σ H _ I h) fun v s1 ⟨x, H1, I1, r1, q1⟩ => ?_)
  obtain ⟨a, xs, ex, hx, q⟩ := q1
  subst ex
  cases r1
  have hst : PO X (some (.UnaryOp .USub (.Constant (.int 1) k p1) p2)) (tPart (tUn (rU fun i => .int (-i)) (tC (.int 1)))) := po_some (pe_un un_neg pe_int)
  refine wpAny_Slice (thn (po_none.run pins s1 σ H1 (fun o H2 => o = none ∧ H2 = H1) I1 ⟨rfl, rfl⟩) fun vl s2 ⟨l, H2, I2, pl, el, e2⟩ => ?_)
  subst el e2
  refine thn (po_none.run pins s2 σ H2 (fun o H3 => o = none ∧ H3 = H2) I2 ⟨rfl, rfl⟩) fun vu s3 ⟨u, H3, I3, pu, eu, e3⟩ => ?_
  subst eu e3
  refine thn (hst.run pins s3 σ H3 (fun o H4 => o = some (-1) ∧ H4 = H3) I3 ⟨1, rfl, -1, rfl, rfl, rfl⟩) fun vs s4 ⟨o, H4, I4, ps, eo, e4⟩ => ?_
  subst eo e4
  have I5 : Inv X pins σ H4 { s4 with heap := s4.heap.push { cls := .type "slice", data := .fields #[vl, vu, vs] } } := I4.kept (t' := s4.toks) fun b ob q => Heap.get?_push_of_some _ q
  obtain ⟨its, r, ht, hz⟩ := I5.tuple hx
  have hlen := r.length
  show wpAny (model X.prog X.w) X.A (subscriptTail e (.Slice none none (some (.UnaryOp .USub (.Constant (.int 1) k p1) p2)) p3) (.ref a) (.ref s4.heap.objs.size)) (EP X pins σ Q) X.xe { s4 with heap := s4.heap.push { cls := .type "slice", data := .fields #[vl, vu, vs] } }
  refine tail_any (ops := [.ref a, .ref s4.heap.objs.size]) ht.typeIs PyProof.Rows.slot_tuple_getitem.lookup ?_ (by with_unfolding_all rfl)
  refine getItem_tuple_rev ht (Heap.IsSliceOf.new _ vl vu vs) pl pu ps ?_ (by omega)
  refine ⟨.ref _, _, I5.laid (t' := s4.toks) (o := .tup xs.reverse) (fun b ob q => Heap.get?_push_of_some _ q) (Nat.le_refl _) ?_, rfl, q _ (I5.hok.fresh (Nat.le_refl _))⟩
  exact ⟨by rw [List.length_reverse]; exact hz, _, r.reverse, IsTup.new _ _⟩
def fRevA (fa : Fz Sv) : Fz Sv := fun δ μ => (fa δ μ).bind fun a μ => match a with
  | .d (.tup l) => okz (.tup l.reverse) μ
  | a => revO a μ
theorem z_revA (hK : G.K = X.K) {k : Nat} {p1 p3 : Pos} (ha : PE X e (zE G W fa)) : PE X (.Subscript e (.Slice none none (some (.UnaryOp .USub (.Constant (.int 1) k p1) p2)) p3) pos) (zE G W (fRevA fa)) :=
  peImp (peOr (pe_revT ha) (z_rev hK ha)) fun σ H Q q => by
  obtain ⟨F, ρ, δ, μ, rr, w, s, e, p⟩ := q
  unfold fRevA at e
  cases h : fa δ μ with
  | none => rw [h] at e; cases e
  | some q =>
    obtain ⟨v, μ1⟩ := q
    rw [h] at e
    cases v with
    | error x => cases e; exact .inl ⟨F, ρ, δ, μ, _, w, s, h, p⟩
    | ok v =>
      rw [Rz.bind_ok] at e
      split at e
      · rename_i l
        cases e
        refine .inl ⟨F, ρ, δ, μ, _, w, s, h, fun x F1 ρ1 H1 g1 w1 r1 => ?_⟩
        cases r1 with
        | d r1 =>
          cases r1 with
          | tup h1 h2 =>
            have t1 := w1.ex.t h1
            rw [hK] at t1
            refine ⟨_, _, rfl, t1, fun q hq => ?_⟩
            obtain ⟨w2, g2⟩ := w1.newD hq (.tup (List.reverse _))
            have h4 := (RsL.ofD (ρ := ρ1) h2).rev
            rw [← List.map_reverse] at h4
            exact p _ _ _ _ (g1.trans g2) w2 (.d (.tup (SqT.of upd_same) ((RsL.toD h4).mono g2.f)))
      · refine .inr ⟨F, ρ, δ, μ, _, w, s, ?_, p⟩
        show Rz.bind (fa δ μ) (fun a μ => revO a μ) = _
        rw [h]; exact e
end
section
variable {P : Except Exn Sv → Mu → Prop} {δ : Dl} {μ : Mu}
@[simp] theorem Ev_RevA (fa : Fz Sv) : Ev (fRevA fa δ μ) P = Ev (fa δ μ) (fun e μ1 => okc e (fun a => Ev (match a with
  | .d (.tup l) => okz (.tup l.reverse) μ1
  | a => revO a μ1) P) (fun x => P (.error x) μ1)) := by
  show Ev (Rz.bind _ _) _ = _
  rw [Ev_bind]
@[simp] theorem Ev_slA (fa : Fz Sv) (fl fh : Fz (Option Int)) : Ev (fSlA fa fl fh δ μ) P = Ev (fa δ μ) (fun e μ1 => okc e (fun a => Ev (fl δ μ1) (fun e μ2 => okc e (fun lo => Ev (fh δ μ2) (fun e μ3 => okc e (fun hi => Ev (oSlA a lo hi μ3) P) (fun x => P (.error x) μ3))) (fun x => P (.error x) μ2))) (fun x => P (.error x) μ1)) := by
  show Ev (Rz.bind _ fun a μ => Rz.bind _ fun lo μ => Rz.bind _ _) _ = _
  rw [Ev_bind]; refine Ev_ext fun e μ => ?_; cases e <;> simp only [okc_ok, okc_err]
  rw [Ev_bind]; refine Ev_ext fun e μ => ?_; cases e <;> simp only [okc_ok, okc_err]
  rw [Ev_bind]
@[simp] theorem oSlA_t (l : List D) (lo hi : Option Int) : oSlA (.d (.tup l)) lo hi μ = okz (.tup (cutL l lo hi)) μ := rfl
@[simp] theorem oSlA_s (l : List Nat) (lo hi : Option Int) : oSlA (.d (.str l)) lo hi μ = oSl (.d (.str l)) lo hi μ := rfl
@[simp] theorem oSlA_l (l : List D) (lo hi : Option Int) : oSlA (.d (.lst l)) lo hi μ = oSl (.d (.lst l)) lo hi μ := rfl
@[simp] theorem oAddA_t (a b : List D) : oAddA (.d (.tup a)) (.d (.tup b)) μ = if a.length + b.length ≤ 16777216 then okz (.tup (a ++ b)) μ else none := rfl
@[simp] theorem oAddA_i (a : Int) (b : Sv) : oAddA (.d (.int a)) b μ = oAdd (.d (.int a)) b μ := rfl
@[simp] theorem oAddA_s (a : List Nat) (b : Sv) : oAddA (.d (.str a)) b μ = oAdd (.d (.str a)) b μ := rfl
@[simp] theorem oAddA_l (a : List D) (b : Sv) : oAddA (.d (.lst a)) b μ = oAdd (.d (.lst a)) b μ := rfl
theorem oRep_c {n : Nat} {ds : List D} {k : Int} (h : μ[n]? = some (.lst (ds.map Sv.d))) (h1 : 0 ≤ k) (h2 : k ≤ 1000) (h3 : ds.length ≤ 1000) : oRep (.c n) (.d (.int k)) μ = okz (.lst (List.replicate k.toNat ds).flatten) μ := by
  have : ds.length * k.toNat ≤ 16777216 := Nat.le_trans (Nat.mul_le_mul h3 (show k.toNat ≤ 1000 by omega)) (by decide)
  unfold oRep
  simp only [h, toDs_map, List.length_map]
  rw [if_pos ⟨by omega, by omega, this⟩]
end
end Z
namespace Z
open PySem PySem.Spec PyProof.Rows L2
section
variable {P : Except Exn Sv → Mu → Prop} {R : Fl → Dl → Mu → Prop} {δ : Dl} {μ : Mu}
/-! ## the weakest conditions of fields, of methods, of making -/
def pickc (o : Option (Fn × List D)) (k : Fn → List D → Prop) (_ : Ph k := phm k) : Prop := match o with
  | some q => k q.1 q.2
  | none => False
@[simp ↓, simp] theorem pickc_s (fn : Fn) (ds : List D) (k : Fn → List D → Prop) : pickc (some (fn, ds)) k = k fn ds := rfl
@[simp] theorem Ev_meth (m : String) (ms : List (String × Fn × List D)) (fo : Fz Sv) (fr : Fz (List Sv)) : Ev (fMeth m ms fo fr δ μ) P = Ev (fo δ μ) (fun e μ => okc e (fun o => pickc (pick m ms μ o) fun fn dds => Ev (fr δ μ) (fun e μ => okc e (fun as => Ev (fn (o :: (as ++ dds.map Sv.d)) μ) P) (fun x => P (.error x) μ))) (fun x => P (.error x) μ)) := by
  show Ev (Rz.bind _ _) _ = _
  rw [Ev_bind]
  refine Ev_ext fun e μ => ?_; cases e with
  | error x => rfl
  | ok o =>
    simp only [okc_ok]
    cases h : pick m ms μ o with
    | none => simp [pickc, Ev]
    | some q =>
      obtain ⟨fn, dds⟩ := q
      simp only [pickc_s]
      exact Ev_bind ..
@[simp] theorem Ev_fld (ct : Ct) (f : String) (fo : Fz Sv) : Ev (fFld ct f fo δ μ) P = Ev (fo δ μ) (fun e μ => okc e (fun o => Ev (fldO ct f o μ) P) (fun x => P (.error x) μ)) := by
  show Ev (Rz.bind _ _) _ = _
  rw [Ev_bind]
@[simp] theorem Es_fld (ct : Ct) (f : String) (fo fv : Fz Sv) : Es (sFld ct f fo fv δ μ) R = Ev (fv δ μ) (fun e μ => okc e (fun v => Ev (fo δ μ) (fun e μ => okc e (fun o => Es (setF ct f o v δ μ) R) (fun x => R (.ex x) δ μ))) (fun x => R (.ex x) δ μ)) := by
  show Es (eS _ _ _) _ = _
  rw [Es_eS]
  refine Ev_ext fun e μ => ?_; cases e with
  | error x => rfl
  | ok v => simp only [okc_ok]; exact Es_eS ..
theorem Ev_mkZ {c : String} {fn : Fn} {ds : List D} {as : List Sv} (h : Ev (fn (.c μ.length :: (as ++ ds.map Sv.d)) (μ ++ [.ins c []])) fun e μ' => okc e (fun v => v = .d .non ∧ P (.ok (.c μ.length)) μ') (fun x => P (.error x) μ')) : Ev (mkZ c fn ds as μ) P := by
  obtain ⟨e, μ', he, p⟩ := h
  unfold mkZ
  cases e with
  | error x => exact ⟨_, _, by rw [he], p⟩
  | ok v =>
    obtain ⟨rfl, p⟩ := p
    exact ⟨_, _, by rw [he], p⟩
@[simp] theorem Ev_mk (c : String) (fn : Fn) (ds : List D) (fr : Fz (List Sv)) : Ev (fMk c fn ds fr δ μ) P = Ev (fr δ μ) (fun e μ => okc e (fun as => Ev (mkZ c fn ds as μ) P) (fun x => P (.error x) μ)) := by
  show Ev (Rz.bind _ _) _ = _
  rw [Ev_bind]
/-- a thing that is made and handed on as it is -/
theorem frz_mk {c : String} {fn : Fn} {ds : List D} {fr : Fz (List Sv)} {as : List Sv} {fs : List (String × D)} (hr : fr δ μ = some (.ok as, μ)) (h : ∀ μ0 : Mu, fn (.c μ0.length :: (as ++ ds.map Sv.d)) (μ0 ++ [.ins c []]) = some (.ok (.d .non), μ0 ++ [.ins c (fs.map fun p => (p.1, Sv.d p.2))])) : fFrz (fMk c fn ds fr) δ μ = some (.ok (.d (.ins c fs)), μ) := by
  show Rz.bind (Rz.bind (fr δ μ) _) _ = _
  rw [hr]
  simp only [Rz.bind_ok, mkZ, h]
  have q1 : (μ ++ [Cell.ins c (fs.map fun p => (p.1, Sv.d p.2))])[μ.length]? = some (.ins c (fs.map fun p => (p.1, Sv.d p.2))) := by simp
  have q2 : (μ ++ [Cell.ins c (fs.map fun p => (p.1, Sv.d p.2))]).set μ.length .fz = μ ++ [.fz] := by simp
  have q3 : ∀ gs : List (String × D), toFs (gs.map fun p => (p.1, Sv.d p.2)) = some gs := by
    intro gs
    induction gs with
    | nil => rfl
    | cons p r ih => simp only [List.map_cons, toFs, ih, Option.map_some]
  simp only [frzV, q1, q3, q2, gc_app]
end
end Z
namespace Z
open PySem PySem.Spec PyProof.Rows L2
open Sem (wp)
open AutoSeq1 (wpAny_loadPart')
/-! ## enumerate of a tuple -/
section
variable {prog : Program} {w : World} {A : Around} {E : Value → Shared → Prop} {s : Shared} {e it l : Addr} {i : Nat} {items : Array Value} {x old : Value} {St : Heap → Nat → Prop}
theorem enumF_next {Q : Value → Shared → Prop} (f : Feed it l items St)
    (he : IsEnum s.heap e it i old) (hit : St s.heap i) (hx : items[i]? = some x) (hne : e ≠ it) (hel' : l ≠ e)
    (hQ : ∀ h', IsEnumOut h' e it ((i : Int) + 1) x s.heap.objs.size → St h' (i + 1) →
      h'.get? s.heap.objs.size = some { cls := .type "tuple", data := .seq #[.int i s.toks, x] } → h'.objs.size = s.heap.objs.size + 1 →
      (∀ b o, b ≠ e → b ≠ it → s.heap.get? b = some o → h'.get? b = some o) → Q (.ref s.heap.objs.size) { s with heap := h', toks := s.toks + 1 }) :
    wpAny (model prog w) A (Builtin.«enumerate.__next__» ⟨[.ref e], []⟩) (fun fin s' => ∃ v, fin = .done (.ret v) ∧ Q v s') E s := by
  obtain ⟨hp, g, d, tk, os⟩ := s
  show wpAny _ _ (field (.ref e) 2 >>= _) _ _ _
  refine wpAny_bind (wpAny_field he rfl (x := .ref it) rfl ?_)
  refine wpAny_bind (f.item hit hx fun h₁ hit₁ hs₁ => ?_)
  replace hs₁ : Heap.SameBut it hp h₁ := hs₁
  have he₁ : IsEnum h₁ e it i old := (hs₁.2 e hne).trans he
  show wpAny _ _ (field (.ref e) 3 >>= _) _ _ ⟨h₁, g, d, tk, os⟩
  refine wpAny_bind (wpAny_field he₁ rfl (x := rawInt i) rfl ?_)
  show wpAny _ _ (field (.ref e) 4 >>= _) _ _ ⟨h₁, g, d, tk, os⟩
  refine wpAny_bind (wpAny_field he₁ rfl (x := .none) rfl ?_)
  show wpAny _ _ (mkInt i >>= _) _ _ ⟨h₁, g, d, tk, os⟩
  refine wpAny_bind (wpAny_mkInt ?_)
  show wpAny _ _ (setField (.ref e) 3 (rawInt ((i : Int) + 1)) >>= _) _ _ ⟨h₁, g, d, tk + 1, os⟩
  refine wpAny_bind (wpAny_setField_rec he₁ (by simp) fun h₂ he₂ hs₂ => ?_)
  replace hs₂ : Heap.SameBut e h₁ h₂ := hs₂
  replace he₂ : IsEnum h₂ e it ((i : Int) + 1) old := he₂
  show wpAny _ _ (setField (.ref e) 4 .none >>= _) _ _ ⟨h₂, g, d, tk + 1, os⟩
  refine wpAny_bind (wpAny_setField_rec he₂ (by simp) fun h₃ he₃ hs₃ => ?_)
  replace hs₃ : Heap.SameBut e h₂ h₃ := hs₃
  replace he₃ : IsEnum h₃ e it ((i : Int) + 1) old := he₃
  show wpAny _ _ (newTuple [.int i tk, x] >>= _) _ _ ⟨h₃, g, d, tk + 1, os⟩
  refine wpAny_bind (wpAny_newTuple ?_)
  have he₄ : IsEnum (h₃.push { cls := .type "tuple", data := .seq #[.int i tk, x] }) e it ((i : Int) + 1) old := Heap.get?_push_of_some _ he₃
  generalize hh₄ : h₃.push { cls := .type "tuple", data := .seq #[.int i tk, x] } = h₄ at he₄
  have hsz : h₃.objs.size = hp.objs.size := by rw [hs₃.1, hs₂.1, hs₁.1]
  have hel : e < hp.objs.size := Heap.lt_size he
  have ht₄ : h₄.get? hp.objs.size = some { cls := .type "tuple", data := .seq #[.int i tk, x] } := by rw [← hh₄, ← hsz]; exact Heap.get?_push_size _ rfl
  have hz₄ : h₄.objs.size = hp.objs.size + 1 := by rw [← hh₄, Heap.size_push, hsz]
  have hk₄ : ∀ b o, b ≠ e → b ≠ it → hp.get? b = some o → h₄.get? b = some o := fun b o hbe hbi hb => by
    rw [← hh₄]; exact Heap.get?_push_of_some _ (hs₃.extBut b o hbe (hs₂.extBut b o hbe (hs₁.extBut b o hbi hb)))
  have hit₄ : St h₄ (i + 1) := by
    rw [← hh₄]
    exact f.keep (f.stay (Ne.symm hne) hel' hs₃.extBut (f.stay (Ne.symm hne) hel' hs₂.extBut hit₁)) (fun o q => Heap.get?_push_of_some _ q) (fun o q => Heap.get?_push_of_some _ q)
  show wpAny _ _ (Builtin.SmallTypes.ownedTupleIsFree (.ref e) >>= _) _ _ ⟨h₄, g, d, tk + 1, os⟩
  rw [hsz]
  clear hh₄ he₃ hs₃ he₂ hs₂ he₁ hs₁ hit₁ hsz h₃ h₂ h₁
  refine wpAny_bind ?_
  · unfold Builtin.SmallTypes.ownedTupleIsFree
    refine wpAny_bind (wpAny_field he₄ rfl (x := .none) rfl (wpAny_pure ?_))
    simp only [if_true]
    refine wpAny_bind (wpAny_rule ?_)
    refine wpAny_bind (wpAny_field he₄ rfl (x := old) rfl ?_)
    refine wpAny_bind (wpAny_setField_rec he₄ (by simp) fun h₅ he₅ hs₅ => ?_)
    replace hs₅ : Heap.SameBut e h₄ h₅ := hs₅
    replace he₅ : IsEnum h₅ e it ((i : Int) + 1) x := he₅
    show wpAny _ _ (Builtin.SmallTypes.ownedTupleHandOut (.ref e) (.ref hp.objs.size) >>= _) _ _ ⟨h₅, g, d, tk + 1, os⟩
    refine wpAny_bind ?_
    · unfold Builtin.SmallTypes.ownedTupleHandOut
      refine wpAny_bind (wpAny_setField_rec he₅ (by simp) fun h₆ he₆ hs₆ => ?_)
      replace hs₆ : Heap.SameBut e h₅ h₆ := hs₆
      replace he₆ : IsEnumOut h₆ e it ((i : Int) + 1) x hp.objs.size := he₆
      refine wpAny_setField_rec he₆ (by simp) fun h₇ he₇ hs₇ => ?_
      replace hs₇ : Heap.SameBut e h₆ h₇ := hs₇
      replace he₇ : IsEnumOut h₇ e it ((i : Int) + 1) x hp.objs.size := he₇
      refine wpAny_bind (wpAny_letGo (wpAny_pure ⟨_, rfl, hQ h₇ he₇ ?_ ?_ ?_ ?_⟩))
      · exact f.stay (Ne.symm hne) hel' hs₇.extBut (f.stay (Ne.symm hne) hel' hs₆.extBut (f.stay (Ne.symm hne) hel' hs₅.extBut hit₄))
      · exact hs₇.extBut _ _ (Nat.ne_of_gt hel) (hs₆.extBut _ _ (Nat.ne_of_gt hel) (hs₅.extBut _ _ (Nat.ne_of_gt hel) ht₄))
      · rw [hs₇.1, hs₆.1, hs₅.1, hz₄]
      · exact fun b o hbe hbi hb => hs₇.extBut b o hbe (hs₆.extBut b o hbe (hs₅.extBut b o hbe (hk₄ b o hbe hbi hb)))
theorem pyNext_enumF_item {Q : Option Value → Shared → Prop} (f : Feed it l items St)
    (he : IsEnum s.heap e it i old) (hit : St s.heap i) (hx : items[i]? = some x) (hne : e ≠ it) (hel' : l ≠ e)
    (hQ : ∀ h', IsEnumOut h' e it ((i : Int) + 1) x s.heap.objs.size → St h' (i + 1) →
      h'.get? s.heap.objs.size = some { cls := .type "tuple", data := .seq #[.int i s.toks, x] } → h'.objs.size = s.heap.objs.size + 1 →
      (∀ b o, b ≠ e → b ≠ it → s.heap.get? b = some o → h'.get? b = some o) → Q (some (.ref s.heap.objs.size)) { s with heap := h', toks := s.toks + 1 }) :
    wpAny (model prog w) A (pyNext (.ref e)) Q E s := by
  have hT : s.TypeIs (.ref e) "enumerate" := ⟨_, he, rfl⟩
  unfold pyNext
  exact wpAny_bind (wpAny_attempt (wpAny_callSpecial?_slot (name := Str.ofString "__next__") hT F.slot_enumerate_next
    (wpAny_call_entry F.slot_enumerate_next hT F.entry_enumerate_next
      (enumF_next f he hit hx hne hel' fun h' a b c d k => wpAny_pure (hQ h' a b c d k)) (F.args_enumerate_next_1 _))))
theorem pyNext_enumF_end {Q : Option Value → Shared → Prop} (f : Feed it l items St) (hh : A.handled = none)
    (he : IsEnum s.heap e it i old) (hit : St s.heap i) (hx : items[i]? = none)
    (hQ : ∀ h', Heap.ExtBut it s.heap h' → Q none { s with heap := h' }) : wpAny (model prog w) A (pyNext (.ref e)) Q E s := by
  have hT : s.TypeIs (.ref e) "enumerate" := ⟨_, he, rfl⟩
  unfold pyNext
  refine wpAny_bind (wpAny_attempt (wpAny_callSpecial?_slot (name := Str.ofString "__next__") hT F.slot_enumerate_next
    (wpAny_call_entry F.slot_enumerate_next hT F.entry_enumerate_next ?_ (F.args_enumerate_next_1 _))))
  show wpAny _ _ (field (.ref e) 2 >>= _) _ _ _
  refine wpAny_bind (wpAny_field he rfl (x := .ref it) rfl ?_)
  refine wpAny_bind (f.stop hh hit hx fun h' x he' hx' => ?_)
  obtain ⟨o, ho, hc⟩ := hx'
  refine wpAny_bind (wpAny_isInstance (T := "StopIteration") (b := true) ⟨o, ho, hc⟩ isSubtype_stop ?_)
  exact wpAny_pure (hQ _ he')
end
theorem meets_enumT (l : Addr) (items : Array Value) (n : Nat) (dct : Option Addr) (sl : Array (Option Value)) :
    Meets (Builtin.«enumerate.__new__» ⟨[.type "enumerate", .ref l], []⟩) (fun _ R s => s.heap.get? l = some { cls := .type "tuple", dict := dct, data := .seq items n, slots := sl } ∧
      R (.ok (.ret (.ref (s.heap.push { cls := .type "tuple_iterator", data := .fields #[.ref l, .int 0 0] }).objs.size)))
        { s with heap := (s.heap.push { cls := .type "tuple_iterator", data := .fields #[.ref l, .int 0 0] }).push { cls := .type "enumerate", data := .fields #[.none, .bool false, .ref s.heap.objs.size, rawInt 0, .none, .none] } }) :=
  .of_wp fun prog w A R s h => by
    obtain ⟨hp, g, d, tk, os⟩ := s; obtain ⟨hl, h⟩ := h
    have hsub := sub_enumerate
    have hL : Heap.IsTuple (Shared.heap ⟨hp, g, d, tk, os⟩) l items := ⟨_, hl, rfl, n, rfl⟩
    wp_walk using wpAny_loadPart' hl
    refine wpAny_stack_any fun st => wpAny_pure ?_
    split
    · rename_i c _ _ _ _ _
      cases (c == Value.type "enumerate")
      · wp_walk using wpAny_loadPart' hl, wpAny_pyIter_tuple hL
        exact ⟨_, rfl, h⟩
      · wp_walk using wpAny_loadPart' hl, wpAny_pyIter_tuple hL
        exact ⟨_, rfl, h⟩
    · wp_walk using wpAny_loadPart' hl, wpAny_pyIter_tuple hL
      exact ⟨_, rfl, h⟩
section
variable {prog : Program} {w : World} {A : Around} {E : Value → Shared → Prop} {s : Shared}
theorem call_enumT {l : Addr} {items : Array Value} {Q : Value → Shared → Prop} (hL : s.heap.IsTuple l items)
    (h : ∀ h', IsEnum h' (s.heap.objs.size + 1) s.heap.objs.size 0 .none → h'.IsTupleIter s.heap.objs.size l 0 → h'.objs.size = s.heap.objs.size + 2 →
      (∀ b o, s.heap.get? b = some o → h'.get? b = some o) → Q (.ref (s.heap.objs.size + 1)) { s with heap := h' }) :
    wpAny (model prog w) A (call (.type "enumerate") [.ref l]) Q E s := by
  obtain ⟨⟨c, dct, dt, sl⟩, hl, hc, n, hd⟩ := hL
  replace hc : c = .type "tuple" := hc
  replace hd : dt = .seq items n := hd
  subst hc hd
  refine callType_new F.called_enumerate (by decide) (F.typeCall_enumerate_1 _) (F.newCall_enumerate_1 _) (fun obj => F.args_object_init_2 obj _) F.entry_enumerate_new
    (meets_enumT l items n dct sl) ⟨hl, ?_⟩
  have hz : (s.heap.push { cls := .type "tuple_iterator", data := .fields #[.ref l, .int 0 0] }).objs.size = s.heap.objs.size + 1 := Heap.size_push ..
  show _ ∧ _
  rw [hz]
  have he : IsEnum ((s.heap.push { cls := .type "tuple_iterator", data := .fields #[.ref l, .int 0 0] }).push
      { cls := .type "enumerate", data := .fields #[.none, .bool false, .ref s.heap.objs.size, rawInt 0, .none, .none] }) (s.heap.objs.size + 1) s.heap.objs.size 0 .none := by
    have := Heap.get?_push_size (s.heap.push { cls := .type "tuple_iterator", data := .fields #[.ref l, .int 0 0] })
      (o := { cls := .type "enumerate", data := .fields #[.none, .bool false, .ref s.heap.objs.size, rawInt 0, .none, .none] }) rfl
    rw [hz] at this; exact this
  refine ⟨⟨_, he, rfl⟩, h _ he ⟨_, Heap.get?_push_of_some _ (Heap.get?_push_size _ rfl), rfl, rfl⟩ (by rw [Heap.size_push, hz]) fun b o x => Heap.get?_push_of_some _ (Heap.get?_push_of_some _ x)⟩
end
end Z
namespace Z
open PySem PySem.Spec PyProof.Rows L2
/-- the tuple at a as it stands at each turn, each item in a new pair -/
def IteT (K : PySem.W.Frag) (a : Addr) : It :=
  ⟨fun i H => ∃ (xs : List V) (x : V), SqT K H a xs ∧ xs[i]? = some x, fun i H v H' => ∃ T x, v = .ref T ∧ H T = none ∧ H' = upd H T (.tup [.int (i : Nat), x]) ∧ ∀ xs, SqT K H a xs → xs[i]? = some x, fun i H => ∃ xs : List V, SqT K H a xs ∧ xs.length ≤ i⟩
theorem turn_enumT {P : Program} {w : World} {K : PySem.W.Frag} {elts : List Expr} {kk : Nat} {tpos : Pos} (a e it : Addr) :
    Turn P w K (.Tuple elts kk tpos) (IteT K a) [e, it] e (fun i h => (∃ old, IsEnum h e it ((i : Nat) : Int) old) ∧ h.IsTupleIter it a i ∧ e ≠ it ∧ a ≠ it ∧ a ≠ e) where
  mem := by simp
  obj := fun i h st b hb => by
    obtain ⟨⟨old, he⟩, ⟨o, ho, hc, hd⟩, _⟩ := st
    have e' : b = e ∨ b = it := by simpa using hb
    rcases e' with z | z
    · rw [z]; exact ⟨_, he, fun v q => nomatch q⟩
    · rw [z]; exact ⟨o, ho, fun v q => by rw [hd] at q; cases q⟩
  keep := fun i h h' st k => let ⟨⟨old, he⟩, ⟨o, ho, r⟩, hne⟩ := st; ⟨⟨old, k e (by simp) _ he⟩, ⟨o, k it (by simp) o ho, r⟩, hne⟩
  item := by
    intro X hP hw hK hc i pins s σ H E I hf st hg
    subst hP hw hK
    obtain ⟨⟨old, he⟩, hit, hne, na, nb⟩ := st
    obtain ⟨xs, x, hq, hx⟩ := hg
    obtain ⟨its, rv, p, hz⟩ := I.tuple hq
    obtain ⟨u, hu, ru⟩ := rv.get hx
    have hel : e < s.heap.objs.size := Heap.lt_size he
    have hil : it < s.heap.objs.size := by obtain ⟨_, q, _⟩ := hit; exact Heap.lt_size q
    refine pyNext_enumF_item (feed_tuple (xs := its.toArray) na) he ⟨hit, p⟩ (x := u) (by simpa using hu) hne nb fun h' ho hit' hT hsz hk => ?_
    refine ⟨_, rfl, wpAny_letOwnedTupleGo_enum (s := { s with heap := h', toks := s.toks + 1 }) ho fun h'' he' sb => ?_⟩
    have hT2 : h''.get? s.heap.objs.size = some { cls := .type "tuple", data := .seq #[.int i s.toks, u] } := (sb.2 _ (Nat.ne_of_gt hel)).trans hT
    have new : ObjOk X.prog X.w (upd H s.heap.objs.size (.tup [.int (i : Nat), x])) h'' s.heap.objs.size (.tup [.int (i : Nat), x]) :=
      ⟨by show 2 ≤ sizeLine; decide, [.int i s.toks, u], .cons ⟨_, rfl⟩ (.cons ru .nil), ⟨_, hT2, rfl, _, rfl⟩⟩
    have I1 : Inv X pins σ (upd H s.heap.objs.size (.tup [.int (i : Nat), x])) { s with heap := h'', toks := s.toks + 1 } :=
      I.turnedNew (ch := [e, it]) (fun b ob hb q => (sb.2 b (fun z => hb (by simp [z]))).trans (hk b ob (fun z => hb (by simp [z])) (fun z => hb (by simp [z])) q)) hf (Nat.le_refl _) new
    refine ⟨.ref s.heap.objs.size, _, I1, rfl, ⟨_, x, rfl, I.hok.fresh (Nat.le_refl _), rfl, fun ys hy => by rw [I.tuple_inj hy hq]; exact hx⟩, ⟨⟨u, ?_⟩, ?_, hne, na, nb⟩, fun b hb => ?_⟩
    · have e1 : ((i + 1 : Nat) : Int) = (i : Int) + 1 := by omega
      rw [e1]; exact he'
    · obtain ⟨o, eo, r⟩ := hit'.1
      exact ⟨o, (sb.2 it (Ne.symm hne)).trans eo, r⟩
    · have hb' : b < s.heap.objs.size := by
        have e' : b = e ∨ b = it := by simpa using hb
        rcases e' with z | z
        · rw [z]; exact hel
        · rw [z]; exact hil
      rw [upd_ne (Nat.ne_of_lt hb')]
      exact (hf b hb).1
  done := by
    intro X hP hw hK hc i pins s σ H E I hf st hg
    subst hP hw hK
    obtain ⟨⟨old, he⟩, hit, hne, na, nb⟩ := st
    obtain ⟨xs, hq, hx⟩ := hg
    obtain ⟨its, rv, p, hz⟩ := I.tuple hq
    obtain ⟨f0, f1, f2, f3, f4, f5⟩ := hf it (by simp)
    have hl := rv.length
    exact pyNext_enumF_end (feed_tuple (xs := its.toArray) na) (I.ok.hd hc) he ⟨hit, p⟩ (by simp; omega) fun h' eb => ⟨rfl, I.turned (t' := s.toks) (fun b o hb q => eb b o hb q) f0 f1 f3 f4 f5⟩
  self := fun A i s Q E st h => let ⟨⟨_, he⟩, _⟩ := st; wpAny_pyIter_enum he h
def iEnumA (K : PySem.W.Frag) (ta : TA) : TI := fun σ H R => ta σ H fun vs H1 => ∃ a xs, vs = [.ref a] ∧ ((SqL K H1 a xs ∧ R (Ite K a) H1) ∨ (SqT K H1 a xs ∧ R (IteT K a) H1))
theorem pi_enumA {X : Cx} {e : Expr} {ta : TA} {p pos tpos : Pos} {elts : List Expr} {kk : Nat} (hg : Gl X "enumerate") (hm : X.mg "enumerate" = none) (ha : PA X [e] ta) (hs : starEach [e] X.env = [(false, eval e X.env)] := by rfl) :
    PI X (.Tuple elts kk tpos) (.Call (.Name "enumerate" p) [e] [] pos) (iEnumA X.K ta) := by
  refine ⟨fun pins s σ H R I h => ?_⟩
  refine Call_ (ld_blt I hg hm boot_enumerate (PyProof.Rows.callWith_type1 (thn (ha.run pos pins s σ H _ I h) fun us s1 ⟨vs, H1, I1, r1, q1⟩ => ?_) hs rfl))
  obtain ⟨a, xs, ex, q1⟩ := q1
  subst ex
  cases r1 with
  | cons r rr =>
    cases rr
    cases r
    have fresh2 : ∀ b, b ∈ [s1.heap.objs.size + 1, s1.heap.objs.size] → FpOk X pins H1 b := fun b hb => by
      have e' : b = s1.heap.objs.size + 1 ∨ b = s1.heap.objs.size := by simpa using hb
      have hle : s1.heap.objs.size ≤ b := by omega
      exact I1.fpOk hle (I1.hok.fresh hle)
    rcases q1 with ⟨hq, q⟩ | ⟨hq, q⟩
    · obtain ⟨its, rv, p', hz⟩ := I1.list hq
      refine call_enumerate_list p'.isList fun h' he hit hsz hk => wpAny_pyIter_enum he ?_
      have I2 : Inv X pins σ H1 { s1 with heap := h' } := I1.kept (t' := s1.toks) hk
      exact ⟨s1.heap.objs.size + 1, [s1.heap.objs.size + 1, s1.heap.objs.size], _, _, H1, rfl, I2, turn_enum a (s1.heap.objs.size + 1) s1.heap.objs.size, ⟨⟨.none, he⟩, hit, Nat.succ_ne_self _⟩, fresh2, q⟩
    · obtain ⟨its, rv, p', hz⟩ := I1.tuple hq
      obtain ⟨o, ho, _⟩ := id p'
      have hl := Heap.lt_size ho
      refine call_enumT (show s1.heap.IsTuple a its.toArray from p') fun h' he hit hsz hk => wpAny_pyIter_enum he ?_
      have I2 : Inv X pins σ H1 { s1 with heap := h' } := I1.kept (t' := s1.toks) hk
      exact ⟨s1.heap.objs.size + 1, [s1.heap.objs.size + 1, s1.heap.objs.size], _, _, H1, rfl, I2, turn_enumT a (s1.heap.objs.size + 1) s1.heap.objs.size, ⟨⟨.none, he⟩, hit, Nat.succ_ne_self _, Nat.ne_of_lt hl, Nat.ne_of_lt (Nat.lt_succ_of_lt hl)⟩, fresh2, q⟩
section
variable {G : Gx} {X : Cx} {W : WX} {a : Expr} {fr : Fz (List Sv)} {p pos : Pos}
def enumMO (as : List Sv) (μ : Mu) : Rz Wk := match as with
  | [.d (.tup l)] => some (.ok ⟨enI 0 l, fun _ => True⟩, μ)
  | [v] => match lstC v μ with
    | some k => match toDs k.items with
      | some ds => some (.ok ⟨enI 0 ds, k.chk⟩, μ)
      | none => none
    | none => none
  | _ => none
def fEnumM (fr : Fz (List Sv)) : Fz Wk := fun δ μ => (fr δ μ).bind fun as μ => enumMO as μ
theorem zi_enumM (hK : G.K = X.K) {elts : List Expr} {kk : Nat} {tpos : Pos} (hg : Gl X "enumerate") (hm : X.mg "enumerate" = none) (ha : PA X [a] (zA G W fr)) (hs : starEach [a] X.env = [(false, eval a X.env)] := by rfl) :
    PI X (.Tuple elts kk tpos) (.Call (.Name "enumerate" p) [a] [] pos) (zW G W (fEnumM fr)) := piImp (pi_enumA hg hm ha hs) fun σ H R q => by
  obtain ⟨F, ρ, δ, μ, rr, w, s, e, p⟩ := q
  refine zstep w s e p fun sa μ1 x F1 ρ1 H1 g1 w1 s1 rx e1 p1 => ?_
  unfold enumMO at e1
  split at e1
  · rename_i ds
    cases e1
    cases rx with
    | cons r t =>
      cases t
      cases r with
      | d r =>
        cases r with
        | tup q1 q2 =>
          rename_i l vs
          refine ⟨l, vs, rfl, .inr ⟨by rw [← hK]; exact w1.ex.t q1, ?_⟩⟩
          rw [← hK]
          refine p1.ok w1 (fun F' ρ' μ' H' g w' c i => ?_)
          have r1 := w'.ex.t (g.f.t q1)
          have r2 := q2.mono g.f
          have hl := r2.len
          obtain ⟨ws, hws⟩ : ∃ ws, ws = vs := ⟨_, rfl⟩
          subst hws
          refine ⟨fun hi => ⟨ws, r1, by rw [hl]; rw [enI_len] at hi; exact hi⟩, fun y hy => ?_⟩
          rw [enI_get] at hy
          cases hd2 : ds[i]? with
          | none => rw [hd2] at hy; cases hy
          | some d =>
            rw [hd2] at hy
            have hy' : Sv.d (.tup [.int ((0 + i : Nat) : Int), d]) = y := Option.some.inj hy
            subst hy'
            obtain ⟨u, hu, ru⟩ := RsL.get (RsL.ofD (ρ := ρ') r2) (show (ds.map Sv.d)[i]? = some (.d d) by rw [List.getElem?_map, hd2]; rfl)
            refine ⟨⟨ws, u, r1, hu⟩, fun x H'' ⟨T, z, ev, hT, eH, hx⟩ => ?_⟩
            have e1 := hx ws r1
            rw [hu] at e1; cases e1
            subst ev eH
            obtain ⟨w2, g2⟩ := w'.newD hT (.tup [.int (i : Nat), u])
            refine ⟨_, ρ', g2, w2, .d (.tup (SqT.of upd_same) ?_)⟩
            cases ru with
            | d ru =>
              rw [Nat.zero_add]
              exact .cons (.int _) (.cons (ru.mono g2.f) .nil)
  · split at e1
    · rename_i v _ k hk
      split at e1
      · rename_i ds hd
        cases e1
        cases rx with
        | cons r t =>
          cases t
          obtain ⟨l, vs, rfl, h1, h2, hc, hh⟩ := lstC_at w1 r hk
          refine ⟨l, vs, rfl, .inl ⟨by rw [← hK]; exact h1, ?_⟩⟩
          rw [← hK]
          refine p1.ok w1 (fun F' ρ' μ' H' g w' c i => ?_)
          obtain ⟨ws, r1, r2⟩ := hh F' ρ' μ' H' g w' c
          rw [of_toDs hd] at r2
          have hl := r2.len
          rw [List.length_map] at hl
          refine ⟨fun hi => ⟨ws, r1, by rw [hl]; rw [enI_len] at hi; exact hi⟩, fun y hy => ?_⟩
          rw [enI_get] at hy
          cases hd2 : ds[i]? with
          | none => rw [hd2] at hy; cases hy
          | some d =>
            rw [hd2] at hy
            have hy' : Sv.d (.tup [.int ((0 + i : Nat) : Int), d]) = y := Option.some.inj hy
            subst hy'
            obtain ⟨u, hu, ru⟩ := RsL.get r2 (show (ds.map Sv.d)[i]? = some (.d d) by rw [List.getElem?_map, hd2]; rfl)
            refine ⟨⟨ws, u, r1, hu⟩, fun x H'' ⟨T, z, ev, hT, eH, hx⟩ => ?_⟩
            have e1 := hx ws r1
            rw [hu] at e1; cases e1
            subst ev eH
            obtain ⟨w2, g2⟩ := w'.newD hT (.tup [.int (i : Nat), u])
            refine ⟨_, ρ', g2, w2, .d (.tup (SqT.of upd_same) ?_)⟩
            cases ru with
            | d ru =>
              rw [Nat.zero_add]
              exact .cons (.int _) (.cons (ru.mono g2.f) .nil)
      · cases e1
    · cases e1
  · cases e1
end
section
variable {P : Except Exn Wk → Mu → Prop} {δ : Dl} {μ : Mu}
@[simp] theorem Ev_enumM (fr : Fz (List Sv)) : Ev (fEnumM fr δ μ) P = Ev (fr δ μ) (fun e μ => okc e (fun a => Ev (enumMO a μ) P) (fun x => P (.error x) μ)) := by
  show Ev (Rz.bind _ (fun a μ => enumMO a μ)) _ = _
  rw [Ev_bind]
@[simp] theorem enumMO_t (l : List D) : enumMO [.d (.tup l)] μ = some (.ok ⟨enI 0 l, fun _ => True⟩, μ) := rfl
@[simp] theorem enumMO_l (l : List D) : enumMO [.d (.lst l)] μ = some (.ok ⟨enI 0 l, fun _ => True⟩, μ) := by
  show (match toDs (l.map Sv.d) with
      | some ds => some (Except.ok (⟨enI 0 ds, fun _ => True⟩ : Wk), μ)
      | none => none) = _
  rw [toDs_map]
end
end Z
namespace Z
open PySem PySem.Spec PyProof.Rows L2
/-! ## defs with defaults -/
abbrev FunV (K : PySem.W.Frag) (x qual : Str) (st : Stmt) (dvs : List V) (f : Addr) (fd : FuncData) : Prop := FunD K x qual (defArgs st) (defBody st) (defScope st) dvs [] f fd
theorem funv_mk {K : PySem.W.Frag} {x qual : Str} {st : Stmt} {dvs : List V} {f T : Addr} {oc tc : Value} {od an td : Option Addr} {osl tsl : Array (Option Value)} {kV doc pm cdv ct : Value} {its : Array Value} {n : Nat}
    (l : K.lookup f = some ⟨oc, od, .func (PySem.W.fnOf x qual (defArgs st) (defBody st) (defScope st) (.ref T) kV doc pm an cdv ct), osl⟩) (t : K.lookup T = some ⟨tc, td, .seq its n, tsl⟩) (v : Vals dvs its.toList) (hd : dvs ≠ [])
    (c : PySem.W.codeIn K cdv qual = true) (k : PySem.W.keepIn K (.ref f) = true) : FunV K x qual st dvs f (PySem.W.fnOf x qual (defArgs st) (defBody st) (defScope st) (.ref T) kV doc pm an cdv ct) :=
  ⟨⟨oc, od, .ref T, kV, doc, pm, an, cdv, ct, osl, rfl, l, c, .inr ⟨hd, T, _, its.toList, n, rfl, t, by simp, v⟩, .inl rfl⟩, k⟩
theorem ok_defV {P : Program} {w : World} {mg : Str → Option Value} {base : Heap} {G : Gx} {x qual : Str} {st : Stmt} {dvs : List V} {f : Addr} {fd : FuncData} {N ps : List Str} {k : Nat} {S : Sz} {sc : Scope} (hS : defScope st = sc) (Fu : FunV G.K x qual st dvs f fd) (Sc : FnScope N ps sc)
    (body : ∀ (cdv : Value) (A : Around) (outer : List Env) (s : Shared) (H : Hp) (E : XK), Room k (A.deeper (envOfC qual sc s.heap.objs.size f cdv)) →
      PSs (cxOf (L2.CX P w) P w G.K mg base N qual sc f cdv A outer s H E) (defBody st) (zS G (fun c d _ H => E c d H) S)) :
    FnOk P w G.K mg base (L2.CX P w) (k + 1) f fd ps (spF G (runB ps.length N.length S)) := by
  subst hS
  refine Fu.ok (CX := L2.CX P w) Sc (fun vs H Q E h => by
    obtain ⟨F, ρ, μ, svs, r, wf, rs, e, p⟩ := h
    unfold runB at e
    split at e
    · rename_i q; rw [rs.len]; exact q
    · cases e) (fun cdv A outer s H vs Q E hr h => ?_)
  obtain ⟨F, ρ, μ, svs, r, wf, rs, e, p⟩ := h
  refine ⟨_, body cdv A outer s H E hr, ?_⟩
  unfold runB at e
  split at e
  case isFalse => cases e
  have sl := Sl.start (N.length - svs.length) rs
  cases h : S (svs.map some ++ List.replicate (N.length - svs.length) none) μ with
  | none => rw [h] at e; cases e
  | some q =>
    obtain ⟨fl, δ1, μ1⟩ := q
    rw [h] at e
    refine ⟨F, ρ, _, μ, _, wf, (by unfold L2.start; rw [rs.len]; exact sl), h, ?_⟩
    cases fl with
    | nx =>
      cases e
      intro σ' F' ρ' H' g w' s'
      obtain ⟨ρ2, _, g2, w2⟩ := wf.gc g w'
      exact p .non F' ρ2 H' g2 w2 (.d .non)
    | bk => cases e
    | ct => cases e
    | rt v =>
      cases v with
      | d x =>
        cases e
        intro a F' ρ' H' g w' s'
        obtain ⟨ρ2, _, g2, w2⟩ := wf.gc g w'
        cases s' with
        | d s' => exact p a F' ρ2 H' g2 w2 (.d s')
      | c m => cases e; exact fun a F' ρ' H' g w' s' => p a F' ρ' H' g w' s'
    | ex x =>
      cases e
      intro c d σ' F' ρ' H' g w' s' xr
      obtain ⟨ρ2, _, g2, w2⟩ := wf.gc g w'
      exact p c d F' ρ2 H' g2 w2 xr
end Z
namespace Z
open PySem PySem.Spec PyProof.Rows L2
/-! ## helpers of the plain calculus -/
@[simp] theorem atI0 {α : Type} (x : α) (l : List α) : L2.atI (x :: l) 0 = some x := by
  rw [atI_eq (by omega) (by simp only [List.length_cons]; omega)]; simp
@[simp] theorem atI1 {α : Type} (x y : α) (l : List α) : L2.atI (x :: y :: l) 1 = some y := by
  rw [atI_eq (by omega) (by simp only [List.length_cons]; omega)]; simp
@[simp] theorem atI2 {α : Type} (x y z : α) (l : List α) : L2.atI (x :: y :: z :: l) 2 = some z := by
  rw [atI_eq (by omega) (by simp only [List.length_cons]; omega)]; simp
@[simp] theorem atI3 {α : Type} (x y z u : α) (l : List α) : L2.atI (x :: y :: z :: u :: l) 3 = some u := by
  rw [atI_eq (by omega) (by simp only [List.length_cons]; omega)]; simp
@[simp] theorem atI4 {α : Type} (x y z u v : α) (l : List α) : L2.atI (x :: y :: z :: u :: v :: l) 4 = some v := by
  rw [atI_eq (by omega) (by simp only [List.length_cons]; omega)]; simp
theorem atI_if {α : Type} (p : Prop) [Decidable p] (a b : α) : L2.atI [a, b] (if p then 1 else 0) = some (if p then b else a) := by
  split <;> simp
theorem atI_nat {α : Type} {l : List α} {i : Nat} {x : α} (h : l[i]? = some x) : L2.atI l (i : Int) = some x := by
  have := (List.getElem?_eq_some_iff.1 h).1
  rw [atI_eq (by omega) (by omega)]; simpa using h
/-- a place drawn within a list -/
theorem atI_mod {α : Type} (l : List α) (n : Int) (h : l ≠ []) : ∃ x, L2.atI l (n % (l.length : Int)) = some x ∧ l[(n % (l.length : Int)).toNat]? = some x ∧ x ∈ l := by
  have hl : 0 < l.length := List.length_pos_iff.2 h
  exact atI_of (Int.emod_nonneg _ (by omega)) (Int.emod_lt_of_pos _ (by omega))
theorem getD_at {α : Type} {l : List α} {i : Nat} {d : α} (h : i < l.length) : l[i]? = some (l.getD i d) := by
  rw [List.getD, List.getElem?_eq_getElem h]; rfl
/-- one of each -/
theorem ex_list {α β : Type} {R : α → β → Prop} : ∀ {l : List α}, (∀ (i : Nat) (y : α), l[i]? = some y → ∃ o, R y o) → ∃ os : List β, os.length = l.length ∧ ∀ (i : Nat) (y : α) (o : β), l[i]? = some y → os[i]? = some o → R y o
  | [], _ => ⟨[], rfl, fun i y o h => by simp at h⟩
  | x :: l, h => by
    obtain ⟨o, ho⟩ := h 0 x rfl
    obtain ⟨os, h1, h2⟩ := ex_list (l := l) fun i y hy => h (i + 1) y (by simpa using hy)
    refine ⟨o :: os, by simp [h1], fun i y z hy hz => ?_⟩
    cases i with
    | zero => simp at hy hz; subst hy hz; exact ho
    | succ i => exact h2 i y z (by simpa using hy) (by simpa using hz)
section
variable {P : Except Exn Sv → Mu → Prop} {δ : Dl} {μ : Mu} {vs : List Nat} {g : Tz} {e : Fz Sv}
/-- a comprehension that changes nothing -/
theorem Ev_mapC {fi : Fz (List Sv)} (items : List Sv) (hi : Ev (fi δ μ) fun r μ' => r = .ok items ∧ μ' = μ) (hn : items.length ≤ 16777216) (R : Nat → D → Prop)
    (hs : ∀ (i : Nat) (x : Sv) (μ' : Mu), items[i]? = some x → someD (g x (wipeZ δ vs)) fun δ1 => Ev (e δ1 μ') fun r μ2 => ∃ y, r = .ok (.d y) ∧ μ2 = μ' ∧ R i y)
    (he : ∀ acc : List D, acc.length = items.length → (∀ i y, acc[i]? = some y → R i y) → P (.ok (.d (.lst acc))) μ) : Ev (fFrz (fLcC fi vs g fYes e) δ μ) P := by
  refine Ev_lcF items (of_Ev hi) hn (fun i acc μ' => μ' = μ ∧ acc.length = i ∧ ∀ j y, acc[j]? = some y → R j y) ⟨rfl, rfl, fun j y h => by simp at h⟩ ?_ ?_
  · rintro i x acc μ' hx _ _ ⟨rfl, rfl, hR⟩
    have h := hs _ x (μ' ++ [.lst (acc.map Sv.d)]) hx
    cases hg : g x (wipeZ δ vs) with
    | none => rw [hg] at h; exact h.elim
    | some δ1 =>
      rw [hg] at h
      simp only [someD_s, fYes_eq, Ev_some] at h ⊢
      refine ⟨true, rfl, ?_⟩
      simp only [if_true]
      refine h.imp ?_
      rintro _ _ ⟨y, rfl, rfl, hy⟩
      refine ⟨y, _, rfl, rfl, rfl, rfl, by simp, fun j z hz => ?_⟩
      by_cases hj : j < acc.length
      · rw [List.getElem?_append_left hj] at hz; exact hR j z hz
      · rw [List.getElem?_append_right (by omega)] at hz
        have : j = acc.length := by
          have := (List.getElem?_eq_some_iff.1 hz).1
          simp at this; omega
        subst this
        simp at hz; subst hz; exact hy
  · rintro acc μ' _ _ ⟨rfl, hl, hR⟩
    exact ⟨Lk.refl _, he acc hl hR⟩
theorem Ev_map {fi : Fz Wk} (items : List Sv) (hi : Ev (fi δ μ) fun r μ' => r = .ok ⟨items, fun _ => True⟩ ∧ μ' = μ) (hn : items.length ≤ 16777216) (R : Nat → D → Prop)
    (hs : ∀ (i : Nat) (x : Sv) (μ' : Mu), items[i]? = some x → someD (g x (wipeZ δ vs)) fun δ1 => Ev (e δ1 μ') fun r μ2 => ∃ y, r = .ok (.d y) ∧ μ2 = μ' ∧ R i y)
    (he : ∀ acc : List D, acc.length = items.length → (∀ i y, acc[i]? = some y → R i y) → P (.ok (.d (.lst acc))) μ) : Ev (fFrz (fLcW fi vs g fYes e) δ μ) P := by
  have : fFrz (fLcW fi vs g fYes e) δ μ = fFrz (fLcC (fun _ m => some (.ok items, m)) vs g fYes e) δ μ := by
    show Rz.bind _ _ = Rz.bind _ _
    rw [lcW_from (of_Ev hi)]
  rw [this]
  exact Ev_mapC items (by simp) hn R hs he
/-- the same of an operation whose value is known -/
theorem Ev_mapE {fi : Fz Wk} {α : Type} (xs : List α) (it : α → Sv) (f : α → D) (hi : Ev (fi δ μ) fun r μ' => r = .ok ⟨xs.map it, fun _ => True⟩ ∧ μ' = μ) (hn : xs.length ≤ 16777216)
    (hs : ∀ (x : α) (μ' : Mu), x ∈ xs → someD (g (it x) (wipeZ δ vs)) fun δ1 => Ev (e δ1 μ') fun r μ2 => r = .ok (.d (f x)) ∧ μ2 = μ')
    (he : P (.ok (.d (.lst (xs.map f)))) μ) : Ev (fFrz (fLcW fi vs g fYes e) δ μ) P := by
  refine Ev_of (lcWm xs it (of_Ev hi) hn f fun x μ' hx => ?_) he
  have h := hs x μ' hx
  cases hg : g (it x) (wipeZ δ vs) with
  | none => rw [hg] at h; exact h.elim
  | some δ1 =>
    rw [hg] at h
    exact ⟨δ1, rfl, of_Ev (by simpa using h)⟩
end
section
variable {ct : Ct} {f c : String} {fs : List (String × D)} {gs : List (String × Sv)} {v : Sv} {δ : Dl} {μ : Mu} {R : Fl → Dl → Mu → Prop} {n : Nat}
def lkD (fs : List (String × D)) (f : String) (μ : Mu) : Rz Sv := match fs.lookup f with | some x => okz x μ | none => none
@[simp] theorem lkD_cons {g : String} {x : D} : lkD ((g, x) :: fs) f μ = if g = f then okz x μ else lkD fs f μ := by
  unfold lkD; rw [List.lookup_cons]
  by_cases h : g = f
  · simp [h]
  · have : ¬ (f == g) = true := by simpa using fun e => h e.symm
    simp [h, this]
def lkC (fs : List (String × Sv)) (f : String) (μ : Mu) : Rz Sv := match fs.lookup f with | some x => some (.ok x, μ) | none => none
@[simp] theorem lkC_cons {g : String} {x : Sv} : lkC ((g, x) :: gs) f μ = if g = f then some (.ok x, μ) else lkC gs f μ := by
  unfold lkC; rw [List.lookup_cons]
  by_cases h : g = f
  · simp [h]
  · have : ¬ (f == g) = true := by simpa using fun e => h e.symm
    simp [h, this]
@[simp] theorem fldO_ins : fldO ct f (.d (.ins c fs)) μ = if hasF ct.ins c f = true then lkD fs f μ else none := rfl
@[simp] theorem fldO_exc : fldO ct f (.d (.exc c fs)) μ = if hasF ct.exc c f = true then lkD fs f μ else none := rfl
theorem fldO_c (h : μ[n]? = some (.ins c gs)) : fldO ct f (.c n) μ = if hasF ct.ins c f = true then lkC gs f μ else none := by
  show (match μ[n]? with
    | some (.ins c fs) => if hasF ct.ins c f = true then match fs.lookup f with
      | some x => (some (Except.ok x, μ) : Rz Sv)
      | none => none else none
    | _ => none) = _
  rw [h]; rfl
theorem Es_setF (h : μ[n]? = some (.ins c gs)) : Es (setF ct f (.c n) v δ μ) R = ((hasF ct.ins c f = true ∧ gs.length < 1000) ∧ R .nx δ (μ.set n (.ins c (putZ f v gs)))) := by
  by_cases q : hasF ct.ins c f = true ∧ gs.length < 1000 <;> simp [setF, h, q]
@[simp] theorem Es_setF_app : Es (setF ct f (.c μ.length) v δ (μ ++ [.ins c gs])) R = ((hasF ct.ins c f = true ∧ gs.length < 1000) ∧ R .nx δ (μ ++ [.ins c (putZ f v gs)])) := by
  rw [Es_setF (c := c) (gs := gs) (by simp)]; simp
@[simp] theorem putZ_nil : putZ f v [] = [(f, v)] := rfl
@[simp] theorem putZ_cons {g : String} {x : Sv} : putZ f v ((g, x) :: gs) = if g = f then (g, v) :: gs else (g, x) :: putZ f v gs := rfl
def lkM (ms : List (String × Fn × List D)) (c : String) : Option (Fn × List D) := ms.lookup c
@[simp] theorem lkM_cons {g c : String} {x : Fn × List D} {r : List (String × Fn × List D)} : lkM ((g, x) :: r) c = if g = c then some x else lkM r c := by
  unfold lkM; rw [List.lookup_cons]
  by_cases h : g = c
  · simp [h]
  · have : ¬ (c == g) = true := by simpa using fun e => h e.symm
    simp [h, this]
def noF {α : Type} (fs : List (String × α)) (m : String) : Bool := (fs.lookup m).isNone
@[simp] theorem noF_nil {α : Type} {m : String} : noF ([] : List (String × α)) m = true := rfl
@[simp] theorem noF_cons {α : Type} {g m : String} {x : α} {r : List (String × α)} : noF ((g, x) :: r) m = if g = m then false else noF r m := by
  unfold noF; rw [List.lookup_cons]
  by_cases h : g = m
  · simp [h]
  · have : ¬ (m == g) = true := by simpa using fun e => h e.symm
    simp [h, this]
@[simp] theorem pick_ins {m : String} {ms : List (String × Fn × List D)} : pick m ms μ (.d (.ins c fs)) = if noF fs m = true then lkM ms c else none := rfl
theorem pick_c {m : String} {ms : List (String × Fn × List D)} (h : μ[n]? = some (.ins c gs)) : pick m ms μ (.c n) = if noF gs m = true then lkM ms c else none := by
  show (if (match μ[n]? with
    | some (.ins _ fs) => (fs.lookup m).isNone
    | _ => false) = true then (Option.bind (match μ[n]? with
    | some (.ins c _) => some c
    | _ => none) fun c => ms.lookup c) else none) = _
  rw [h]; rfl
end
/-- a thing made and handed on: what __init__ leaves -/
theorem Ev_frzmk {c : String} {fn : Fn} {ds : List D} {fr : Fz (List Sv)} {δ : Dl} {μ : Mu} {P : Except Exn Sv → Mu → Prop} {as : List Sv} (fs : List (String × D)) (hr : Ev (fr δ μ) fun r μ' => r = .ok as ∧ μ' = μ)
    (h : ∀ μ0 : Mu, Ev (fn (.c μ0.length :: (as ++ ds.map Sv.d)) (μ0 ++ [.ins c []])) fun r μ' => r = .ok (.d .non) ∧ μ' = μ0 ++ [.ins c (fs.map fun p => (p.1, Sv.d p.2))]) (p : P (.ok (.d (.ins c fs))) μ) : Ev (fFrz (fMk c fn ds fr) δ μ) P := by
  refine Ev_of (frz_mk (fs := fs) (of_Ev hr) fun μ0 => ?_) p
  obtain ⟨e, μ', h1, rfl, rfl⟩ := h μ0
  exact h1
theorem gc_app1 (μ : Mu) (c : Cell) : gcM (μ ++ [c]) (μ ++ [c]) = μ ++ [c] := gc_self _
/-- a function's body that only fills the cell that it was given, the last one -/
theorem gc_last {μ : Mu} {c c' : Cell} : gcM (μ ++ [c]) (μ ++ [c']) = μ ++ [c'] := by
  exact gc_len (by simp)
@[simp] theorem gc_lastS {μ : Mu} {c c' : Cell} : gcM (μ ++ [c]) (μ ++ [c']) = μ ++ [c'] := gc_last
@[simp] theorem gc_appS {μ t : Mu} : gcM μ (μ ++ t) = μ := gc_app μ t
/-- a for over what stays -/
theorem Es_for_ {fi : Fz Wk} {g : Tz} {S : Sz} {δ : Dl} {μ : Mu} {R : Fl → Dl → Mu → Prop} (items : List Sv) (hi : Ev (fi δ μ) fun r μ' => r = .ok ⟨items, fun _ => True⟩ ∧ μ' = μ) (I : Nat → Dl → Mu → Prop) (h0 : I 0 δ μ)
    (hs : ∀ (i : Nat) (x : Sv) (δ : Dl) (μ : Mu), items[i]? = some x → I i δ μ → someD (g x δ) fun δ1 => Es (S δ1 μ) fun f δ2 μ2 => match f with
      | .nx => I (i + 1) δ2 μ2
      | .ct => I (i + 1) δ2 μ2
      | .bk => R .nx δ2 μ2
      | f => R f δ2 μ2) (he : ∀ δ μ, I items.length δ μ → R .nx δ μ) : Es (sForW fi g S δ μ) R := by
  refine Es_forWt (of_Ev hi) (Es_forL I items 0 δ μ h0 (fun i x δ μ hx h => ?_) (fun δ μ h => he δ μ (by simpa using h)))
  rw [Nat.zero_add] at h ⊢
  exact hs i x δ μ hx h
end Z
namespace Z
open PySem PySem.Spec PyProof.Rows L2
/-! ## == of trees, by their build -/
mutual
def D.eqv : D → D → Bool
  | .non, .non => true
  | .bl a, .bl b => a == b
  | .bl a, .int j => (if a then 1 else 0) == j
  | .int i, .bl b => i == (if b then 1 else 0)
  | .int i, .int j => i == j
  | .str x, .str y => decide (x = y)
  | .lst x, .lst y => D.eqvL x y
  | .tup x, .tup y => D.eqvL x y
  | _, _ => false
def D.eqvL : List D → List D → Bool
  | [], [] => true
  | x :: r, y :: s => D.eqv x y && D.eqvL r s
  | _, _ => false
end
theorem strz (x y : List Nat) : ((⟨x.toArray⟩ : Str) == ⟨y.toArray⟩) = decide (x = y) := by
  have h1 : ((⟨x.toArray⟩ : Str) == ⟨y.toArray⟩) = decide ((⟨x.toArray⟩ : Str) = ⟨y.toArray⟩) := rfl
  rw [h1, str_dec]
theorem py_lst {l : List D} {p : PyData} (h : (D.lst l).py = some p) : ∃ ps, D.py.pys l = some ps ∧ p = .list ps := by
  simp only [D.py] at h
  cases e : D.py.pys l with
  | none => rw [e] at h; cases h
  | some q => rw [e] at h; cases h; exact ⟨q, rfl, rfl⟩
theorem py_tup {l : List D} {p : PyData} (h : (D.tup l).py = some p) : ∃ ps, D.py.pys l = some ps ∧ p = .tuple ps := by
  simp only [D.py] at h
  cases e : D.py.pys l with
  | none => rw [e] at h; cases h
  | some q => rw [e] at h; cases h; exact ⟨q, rfl, rfl⟩
theorem pys_cons {x : D} {r : List D} {ps : List PyData} (h : D.py.pys (x :: r) = some ps) : ∃ p q, x.py = some p ∧ D.py.pys r = some q ∧ ps = p :: q := by
  simp only [D.py.pys] at h
  cases e : x.py with
  | none => rw [e] at h; cases h
  | some p =>
    cases e2 : D.py.pys r with
    | none => rw [e, e2] at h; cases h
    | some q => rw [e, e2] at h; cases h; exact ⟨p, q, rfl, rfl, rfl⟩
mutual
theorem eqv_py : ∀ (a b : D) (p q : PyData), a.py = some p → b.py = some q → PyData.eqv p q = D.eqv a b
  | a, b, p, q, h1, h2 => by
    match a, h1 with
    | .lst l, h1 =>
      obtain ⟨ps, e1, rfl⟩ := py_lst h1
      match b, h2 with
      | .lst m, h2 =>
        obtain ⟨qs, e2, rfl⟩ := py_lst h2
        simp only [PyData.eqv, D.eqv]
        exact eqvL_py l m ps qs e1 e2
      | .tup m, h2 => obtain ⟨qs, e2, rfl⟩ := py_tup h2; simp only [PyData.eqv, D.eqv]
      | .non, h2 => cases h2; simp only [PyData.eqv, D.eqv]
      | .bl _, h2 => cases h2; simp only [PyData.eqv, D.eqv]
      | .int _, h2 => cases h2; simp only [PyData.eqv, D.eqv]
      | .str _, h2 => cases h2; simp only [PyData.eqv, D.eqv]
    | .tup l, h1 =>
      obtain ⟨ps, e1, rfl⟩ := py_tup h1
      match b, h2 with
      | .tup m, h2 =>
        obtain ⟨qs, e2, rfl⟩ := py_tup h2
        simp only [PyData.eqv, D.eqv]
        exact eqvL_py l m ps qs e1 e2
      | .lst m, h2 => obtain ⟨qs, e2, rfl⟩ := py_lst h2; simp only [PyData.eqv, D.eqv]
      | .non, h2 => cases h2; simp only [PyData.eqv, D.eqv]
      | .bl _, h2 => cases h2; simp only [PyData.eqv, D.eqv]
      | .int _, h2 => cases h2; simp only [PyData.eqv, D.eqv]
      | .str _, h2 => cases h2; simp only [PyData.eqv, D.eqv]
    | .non, h1 =>
      cases h1
      match b, h2 with
      | .tup m, h2 => obtain ⟨qs, e2, rfl⟩ := py_tup h2; simp only [PyData.eqv, D.eqv]
      | .lst m, h2 => obtain ⟨qs, e2, rfl⟩ := py_lst h2; simp only [PyData.eqv, D.eqv]
      | .non, h2 => cases h2; simp only [PyData.eqv, D.eqv]
      | .bl _, h2 => cases h2; simp only [PyData.eqv, D.eqv]
      | .int _, h2 => cases h2; simp only [PyData.eqv, D.eqv]
      | .str _, h2 => cases h2; simp only [PyData.eqv, D.eqv]
    | .bl _, h1 =>
      cases h1
      match b, h2 with
      | .tup m, h2 => obtain ⟨qs, e2, rfl⟩ := py_tup h2; simp only [PyData.eqv, D.eqv]
      | .lst m, h2 => obtain ⟨qs, e2, rfl⟩ := py_lst h2; simp only [PyData.eqv, D.eqv]
      | .non, h2 => cases h2; simp only [PyData.eqv, D.eqv]
      | .bl _, h2 => cases h2; simp only [PyData.eqv, D.eqv]
      | .int _, h2 => cases h2; simp only [PyData.eqv, D.eqv]
      | .str _, h2 => cases h2; simp only [PyData.eqv, D.eqv]
    | .int _, h1 =>
      cases h1
      match b, h2 with
      | .tup m, h2 => obtain ⟨qs, e2, rfl⟩ := py_tup h2; simp only [PyData.eqv, D.eqv]
      | .lst m, h2 => obtain ⟨qs, e2, rfl⟩ := py_lst h2; simp only [PyData.eqv, D.eqv]
      | .non, h2 => cases h2; simp only [PyData.eqv, D.eqv]
      | .bl _, h2 => cases h2; simp only [PyData.eqv, D.eqv]
      | .int _, h2 => cases h2; simp only [PyData.eqv, D.eqv]
      | .str _, h2 => cases h2; simp only [PyData.eqv, D.eqv]
    | .str _, h1 =>
      cases h1
      match b, h2 with
      | .tup m, h2 => obtain ⟨qs, e2, rfl⟩ := py_tup h2; simp only [PyData.eqv, D.eqv]
      | .lst m, h2 => obtain ⟨qs, e2, rfl⟩ := py_lst h2; simp only [PyData.eqv, D.eqv]
      | .non, h2 => cases h2; simp only [PyData.eqv, D.eqv]
      | .bl _, h2 => cases h2; simp only [PyData.eqv, D.eqv]
      | .int _, h2 => cases h2; simp only [PyData.eqv, D.eqv]
      | .str _, h2 => cases h2; simp only [PyData.eqv, D.eqv, strz]
theorem eqvL_py : ∀ (a b : List D) (p q : List PyData), D.py.pys a = some p → D.py.pys b = some q → PyData.eqvAll p q = D.eqvL a b
  | [], [], _, _, h1, h2 => by cases h1; cases h2; simp only [PyData.eqvAll, D.eqvL]
  | [], y :: s, _, _, h1, h2 => by cases h1; obtain ⟨_, _, _, _, rfl⟩ := pys_cons h2; simp only [PyData.eqvAll, D.eqvL]
  | x :: r, [], _, _, h1, h2 => by cases h2; obtain ⟨_, _, _, _, rfl⟩ := pys_cons h1; simp only [PyData.eqvAll, D.eqvL]
  | x :: r, y :: s, _, _, h1, h2 => by
    obtain ⟨p, ps, a1, a2, rfl⟩ := pys_cons h1
    obtain ⟨q, qs, b1, b2, rfl⟩ := pys_cons h2
    simp only [PyData.eqvAll, D.eqvL]
    rw [eqv_py x y p q a1 b1, eqvL_py r s ps qs a2 b2]
end
theorem eqD_eqv {a b : D} {n m : Nat} (ha : D.ok n a = true) (hb : D.ok m b = true) (h : min n m ≤ 60) : eqD a b = some (D.eqv a b) := by
  obtain ⟨p, e1, d1⟩ := ok_py n a ha
  obtain ⟨q, e2, d2⟩ := ok_py m b hb
  have : min p.depth q.depth ≤ 60 := by omega
  simp only [eqD, e1, e2, Option.bind_some, if_pos this, eqv_py a b p q e1 e2]
/-! without truths: == is being the same -/
mutual
def D.nb : D → Bool
  | .non => true
  | .bl _ => false
  | .int _ => true
  | .str _ => true
  | .lst l => D.nbL l
  | .tup l => D.nbL l
  | .ins _ _ => false
  | .exc _ _ => false
def D.nbL : List D → Bool
  | [] => true
  | x :: r => D.nb x && D.nbL r
end
mutual
theorem eqv_iff : ∀ (a b : D), D.nb a = true → D.nb b = true → (D.eqv a b = true ↔ a = b)
  | .lst l, b, h1, h2 => by
    cases b <;> simp [D.eqv, D.nb] at h1 h2 ⊢
    exact eqvL_iff l _ h1 h2
  | .tup l, b, h1, h2 => by
    cases b <;> simp [D.eqv, D.nb] at h1 h2 ⊢
    exact eqvL_iff l _ h1 h2
  | .non, b, h1, h2 => by cases b <;> simp [D.eqv, D.nb] at h1 h2 ⊢
  | .bl _, b, h1, h2 => by simp [D.nb] at h1
  | .int _, b, h1, h2 => by cases b <;> simp [D.eqv, D.nb] at h1 h2 ⊢
  | .str _, b, h1, h2 => by cases b <;> simp [D.eqv, D.nb] at h1 h2 ⊢
  | .ins _ _, b, h1, h2 => by simp [D.nb] at h1
  | .exc _ _, b, h1, h2 => by simp [D.nb] at h1
theorem eqvL_iff : ∀ (a b : List D), D.nbL a = true → D.nbL b = true → (D.eqvL a b = true ↔ a = b)
  | [], [], _, _ => by simp [D.eqvL]
  | [], _ :: _, _, _ => by simp [D.eqvL]
  | _ :: _, [], _, _ => by simp [D.eqvL]
  | x :: r, y :: s, h1, h2 => by
    simp [D.eqvL, D.nbL] at h1 h2 ⊢
    rw [eqv_iff x y h1.1 h2.1, eqvL_iff r s h1.2 h2.2]
end
theorem nbL_iff {l : List D} : D.nbL l = true ↔ ∀ x ∈ l, D.nb x = true := by
  induction l with
  | nil => simp [D.nbL]
  | cons x r ih => simp [D.nbL, ih]
theorem okL_iff {n : Nat} {l : List D} : D.okL n l = true ↔ ∀ x ∈ l, D.ok n x = true := by
  induction l with
  | nil => simp [D.okL]
  | cons x r ih => simp [D.okL, ih]
open Classical in
theorem eqD_nb {a b : D} {n m : Nat} (ha : D.ok n a = true) (hb : D.ok m b = true) (h : min n m ≤ 60) (na : D.nb a = true) (nb : D.nb b = true) : eqD a b = some (decide (a = b)) := by
  rw [eqD_eqv ha hb h]
  congr 1
  have := eqv_iff a b na nb
  by_cases e : a = b
  · simp [e] at this ⊢; exact this
  · simp [e] at this ⊢; exact this
/-! the leaves, by simp -/
section
variable {a b : Bool} {i j : Int} {s t : List Nat} {l m : List D}
@[simp] theorem eqD_bb : eqD (.bl a) (.bl b) = some (decide (a = b)) := by cases a <;> cases b <;> rfl
@[simp] theorem eqD_nn : eqD .non .non = some true := rfl
@[simp] theorem eqD_ns : eqD .non (.str t) = some false := rfl
@[simp] theorem eqD_sn : eqD (.str s) .non = some false := rfl
@[simp] theorem eqD_ni : eqD .non (.int i) = some false := rfl
@[simp] theorem eqD_in : eqD (.int i) .non = some false := rfl
@[simp] theorem eqD_si : eqD (.str s) (.int i) = some false := rfl
@[simp] theorem eqD_is : eqD (.int i) (.str s) = some false := rfl
@[simp] theorem isNon_n : isNon (.d .non) = true := rfl
@[simp] theorem isNon_b : isNon (.d (.bl b)) = false := rfl
@[simp] theorem isNon_i : isNon (.d (.int i)) = false := rfl
@[simp] theorem isNon_s : isNon (.d (.str s)) = false := rfl
@[simp] theorem isNon_l : isNon (.d (.lst l)) = false := rfl
@[simp] theorem isNon_t : isNon (.d (.tup l)) = false := rfl
@[simp] theorem isNon_o {c : String} {fs : List (String × D)} : isNon (.d (.ins c fs)) = false := rfl
@[simp] theorem isNon_x {c : String} {fs : List (String × D)} : isNon (.d (.exc c fs)) = false := rfl
@[simp] theorem isNon_c {n : Nat} : isNon (.c n) = false := rfl
end
end Z
namespace Z
open PySem PySem.Spec PyProof.Rows L2
/-! ## texts: 'c' + x.replace('y', 'z'), split, str(i) -/
/-- c + x.replace(y, z) -/
def addRepO (c y z : List Nat) (a : Sv) (μ : Mu) : Rz Sv := match a with
  | .d (.str x) => if x.length + (x.length + 1) * z.length ≤ 16777216 ∧ c.length + (PySem.StrLaws.replL y z x).length ≤ 16777216 then okz (.str (c ++ PySem.StrLaws.replL y z x)) μ else none
  | _ => none
def fAddRep (c y z : List Nat) (fo : Fz Sv) : Fz Sv := fun δ μ => (fo δ μ).bind fun a μ => addRepO c y z a μ
section
variable {G : Gx} {X : Cx} {W : WX} {o a : Expr} {fo fa : Fz Sv} {pos apos c0 c1 p p0 p2 q : Pos} {j j0 k : Nat}
theorem z_addRep {pc py pz : Str} {c y z : List Nat} (hc : pc.cps.toList = c) (hy : py.cps.toList = y) (hz : pz.cps.toList = z) (hy1 : 1 ≤ py.length) (ho : PE X o (zE G W fo)) (hyz : (py == pz) = false := by decide)
    (hst : starEach [.Constant (.str py) j c0, .Constant (.str pz) k c1] X.env = [(false, eval (.Constant (.str py) j c0) X.env), (false, eval (.Constant (.str pz) k c1) X.env)] := by rfl)
    (hbase : attributeBase o "replace" X.env (eval o X.env) = eval o X.env := by rfl) (hline : (apos.endLine == pos.line) = true := by rfl) :
    PE X (.BinOp (.Constant (.str pc) j0 p0) .Add (.Call (.Attribute o "replace" apos) [.Constant (.str py) j c0, .Constant (.str pz) k c1] [] pos) p) (zE G W (fAddRep c y z fo)) := ⟨fun pins s σ H Q I h => by
  obtain ⟨F, ρ, δ, μ, rr, w, sl, e, pp⟩ := h
  refine wpAny_BinOp (Calls.Constant_str ?_)
  have I1 : Inv X pins σ H { s with toks := s.toks + 1 } := I.tok _
  have q1 : CwR.tReplC (zE G W fo) py pz σ H (fun v H1 => ∃ r, v = .str r ∧ pc.length + r.length ≤ sizeLine ∧ Q (.str (pc ++ r)) H1) := by
    refine zstep w sl e pp fun sa μ1 x F1 ρ1 H1 g1 w1 s1 rx e1 p1 => ?_
    unfold addRepO at e1
    split at e1
    · split at e1
      · rename_i xs hb
        cases e1
        cases rx with
        | d rx =>
          cases rx with
          | str xv =>
            have hr := PySem.StrLaws.replace_list (x := xv) (z := pz) hy1
            rw [hy, hz] at hr
            have lz : pz.length = z.length := by rw [lenS, hz]
            have lc : pc.length = c.length := by rw [lenS, hc]
            refine ⟨xv, rfl, by rw [lenS, lz]; exact hb.1, _, rfl, by rw [szl, lc, lenS (Txt.replace _ _ _), hr]; exact hb.2, p1.ok w1 (.d (rpS ?_))⟩
            rw [show (pc ++ Txt.replace xv py pz).cps.toList = pc.cps.toList ++ (Txt.replace xv py pz).cps.toList from TL.tl_append _ _, hc, hr]
      · cases e1
    · cases e1
  refine thn (CwR.pet_replC ho hyz hst hbase hline pins _ σ H _ (Nat.le_add_left 1 _) I1 q1) fun u s2 ⟨v, H2, I2, r2, r, ev, hl, q2⟩ => ?_
  subst ev
  exact op_add_str pins s2 σ H2 (.str pc) _ _ _ _ I2 ⟨_, rfl⟩ r2 ⟨_, _, rfl, rfl, hl, q2⟩⟩
/-- x.split('c') -/
def mSplit : Opm := fun o as μ => match o, as with
  | .d (.str x), [.d (.str b)] => if b ≠ [] ∧ b.all (· < 256) = true ∧ x.length + 2 ≤ 16777216 then okz (.lst ((TL.spl b 0 [] x).map D.str)) μ else none
  | _, _ => none
theorem rpl_strs {F : Hp} : ∀ l : List (List Nat), RpL G F ((l.map fun z : List Nat => (⟨z.toArray⟩ : Str)).map V.str) (l.map D.str)
  | [] => .nil
  | x :: r => .cons (rpS rfl) (rpl_strs r)
theorem so_split : SOm G W (fun x xs H Q => ∃ a b, x = .str a ∧ xs = [.str b] ∧ (b.length == 0) = false ∧ a.length + 2 ≤ sizeLine ∧ rNewStrs (Txt.split a b) H Q) mSplit := by
  intro F ρ μ H σ x o vs as rr Q w rx r h p
  unfold mSplit at h
  split at h
  · split at h
    · rename_i hb
      cases h
      cases r with
      | cons r t =>
        cases t
        cases r with
        | d r =>
          cases rx with
          | d rx =>
            cases rx with
            | str xv =>
              cases r with
              | str bv =>
                have e : Txt.split xv bv = (TL.spl bv.cps.toList 0 [] xv.cps.toList).map fun z : List Nat => (⟨z.toArray⟩ : Str) := by
                  refine TL.map_tl_inj ?_
                  rw [List.map_map]
                  rw [show TL.tl ∘ (fun z : List Nat => (⟨z.toArray⟩ : Str)) = id from funext fun z => rfl, List.map_id]
                  exact TL.split_spl xv bv hb.1 (TL.kind_ok (by rw [← Array.all_toList]; exact hb.2.1))
                refine ⟨xv, bv, rfl, rfl, ?_, by rw [lenS, szl]; exact hb.2.2, ?_⟩
                · rw [lenS, beq_eq_false_iff_ne]; intro h; exact hb.1 (List.length_eq_zero_iff.1 h)
                · rw [e]
                  intro q hq
                  obtain ⟨w2, g2⟩ := w.newD hq (.lst (((TL.spl bv.cps.toList 0 [] xv.cps.toList).map fun z : List Nat => (⟨z.toArray⟩ : Str)).map V.str))
                  exact p _ _ _ _ g2 w2 (.d (.lst (SqL.of upd_same) (rpl_strs _)))
    · cases h
  · cases h
/-- str(i) -/
def strI (i : Int) : List Nat := ((toString i : String) : Str).cps.toList
def bStr : Opn := fun as μ => match as with
  | [.d (.int i)] => if i.natAbs.log2 < 1920 then okz (.str (strI i)) μ else none
  | _ => none
theorem so_str : SOpn G W (fun xs H Q => ∃ i : Int, xs = [.int i] ∧ i.natAbs.log2 < 1920 ∧ Q (.str (toString i : String)) H) bStr := by
  intro F ρ μ H σ vs as rr Q w r h p
  unfold bStr at h
  split at h
  · split at h
    · cases h
      cases r with
      | cons r t =>
        cases t
        cases r with
        | d r => cases r; exact ⟨_, rfl, by assumption, p.ok w (.d (rpS rfl))⟩
    · cases h
  · cases h
end
end Z
namespace Z
open PySem PySem.Spec PyProof.Rows L2
/-! ## len(set(texts)) -/
/-- how many unlike ones -/
def dcn {α : Type} [DecidableEq α] : List α → Nat
  | [] => 0
  | x :: r => if x ∈ r then dcn r else dcn r + 1
theorem dcn_snoc {α : Type} [DecidableEq α] (z : α) : ∀ l : List α, dcn (l ++ [z]) = if z ∈ l then dcn l else dcn l + 1
  | [] => by simp [dcn]
  | x :: l => by
    have ih := dcn_snoc z l
    simp only [List.cons_append, dcn, List.mem_append, List.mem_singleton, List.mem_cons, ih]
    by_cases h1 : x ∈ l <;> by_cases h2 : z ∈ l <;> by_cases h3 : x = z <;> simp_all
    all_goals (first | omega | (intro h; exact absurd h.symm h3) | (exact absurd h2 (h3 ▸ h1)))
theorem dcn_le {α : Type} [DecidableEq α] : ∀ l : List α, dcn l ≤ l.length
  | [] => by simp [dcn]
  | x :: r => by
    have := dcn_le r
    simp only [dcn, List.length_cons]; split <;> omega
section
variable {P : Program} {w : World} {A : Around} {E : Value → Shared → Prop} {s : Shared}
theorem strs_at' : ∀ {us : List Value} {xs : List Str}, StrsAre us xs → ∀ (i : Nat) (v : Value), us[i]? = some v → ∃ z t, xs[i]? = some z ∧ v = .str z t
  | _, _, .nil, i, v, h => by simp at h
  | _, _, .cons n t hr, 0, v, h => by simp at h; exact ⟨n, t, rfl, by rw [← h]⟩
  | _, _, .cons n t hr, i + 1, v, h => by
    simp only [List.getElem?_cons_succ] at h
    obtain ⟨z, t', e1, e2⟩ := strs_at' hr i v h
    exact ⟨z, t', by simpa using e1, e2⟩
theorem set_update_strs {I : Addr} {fp wr : List Addr} {G : Array GenState → Array GenState → Prop} {n : Nat} {Pv : Nat → Value → Prop} {St : Nat → Shared → Prop} {R : Result → Shared → Prop}
    (W : WalksS P w A.in1 I fp wr G n Pv St) (S : Addr) (hSf : S ∉ fp) (xs : List Str) (hn : n = xs.length) (hb : xs.length + 1 < scanBound) (hval : ∀ i v, Pv i v → ∃ z t, xs[i]? = some z ∧ v = .str z t) :
    ∀ (k i : Nat) (s : Shared), n - i = k → i ≤ n → St i s → s.heap.SetOf (PySem.strKind P w) S (fun j => decide (j ∈ xs.take i)) (dcn (xs.take i)) →
      (∀ s', Moved (S :: wr) G s s' → s'.heap.SetOf (PySem.strKind P w) S (fun j => decide (j ∈ xs)) (dcn xs) → R (.ok (.ret .none)) s') →
      codeAny (model P w) A (.builtin "set.update.loop" ⟨[.ref S, .ref I], []⟩) R s := by
  have hSw : S ∉ wr := fun h => hSf (W.sub _ h)
  have hsub : ∀ b ∈ wr, b ∈ S :: wr := fun b hb => List.mem_cons_of_mem _ hb
  intro k
  induction k with
  | zero =>
    intro i s hk' hi hst hS hR
    have hin : i = n := by omega
    subst hin
    refine codeAny_builtin F.entry_set_update_loop ?_
    rw [Around.under_plainId F.plain_set_update_loop _]
    show wpAny _ A.in1 (pyNext (.ref I) >>= _) _ _ s
    refine wpAny_bind (W.done s _ _ hst fun s' hm => ?_)
    show wpAny _ A.in1 (ret Value.none) _ _ s'
    have e : xs.take i = xs := List.take_of_length_le (by omega)
    rw [e] at hS
    exact wpAny_pure (hR s' (hm.mono hsub) (by
      obtain ⟨o, es, ep, t, ho, rest⟩ := hS
      exact ⟨o, es, ep, t, hm.heap S _ hSw ho, rest⟩))
  | succ k ih =>
    intro i s hk' hi hst hS hR
    have hlt : i < n := by omega
    refine codeAny_builtin F.entry_set_update_loop ?_
    rw [Around.under_plainId F.plain_set_update_loop _]
    show wpAny _ A.in1 (pyNext (.ref I) >>= _) _ _ s
    refine wpAny_bind (W.item i s _ _ hlt hst fun v s' hP hst' hm => ?_)
    obtain ⟨z, t, hz, rfl⟩ := hval i v hP
    have hS' : s'.heap.SetOf (PySem.strKind P w) S (fun j => decide (j ∈ xs.take i)) (dcn (xs.take i)) := by
      obtain ⟨o, es, ep, tb, ho, rest⟩ := hS
      exact ⟨o, es, ep, tb, hm.heap S _ hSw ho, rest⟩
    show wpAny _ A.in1 (holding [Value.str z t] (setAdd S (.str z t)) >>= _) _ _ s'
    refine wpAny_bind (wpAny_holding ?_)
    unfold setAdd
    refine wpAny_holding ?_
    refine wpAny_bind ((PySem.strKind P w).pyHash (k := z) (strKind_is _ _ _ _) ?_)
    have hc : dcn (xs.take i) ≤ i := Nat.le_trans (dcn_le _) (by simp; omega)
    refine wpAny_setAddHashed_of (knd := PySem.strKind P w) (s := { s' with toks := s'.toks + 1 }) (strKind_is _ _ _ _) rfl hS' (by omega) fun h' hsb hS2 => ?_
    have ht : xs.take (i + 1) = xs.take i ++ [z] := by
      rw [List.take_add_one, hz]; rfl
    have hS3 : h'.SetOf (PySem.strKind P w) S (fun j => decide (j ∈ xs.take (i + 1))) (dcn (xs.take (i + 1))) := by
      refine PyProof.Rows.SetOf_congr hS2 (fun j => ?_) ?_
      · rw [ht]; simp [List.mem_append]
      · rw [ht, dcn_snoc]; simp
    refine wpAny_pure ⟨plainId_quiet F.plain_set_update_loop _, ih (i + 1) _ (by omega) hlt (W.frame _ s' _ _ hst' (Nat.le_succ _) fun b hb o e => ?_) hS3 fun s'' hm'' hS'' => ?_⟩
    · rw [hsb.2 b (fun h : b = S => hSf (by rw [← h]; exact hb))]; exact e
    · refine hR s'' (Moved.trans W.gtrans ((hm.mono hsub).then_heap (Nat.le_succ _) fun b o hb e => ?_) hm'') hS''
      rw [hsb.2 b (fun h : b = S => hb (by rw [h]; exact List.mem_cons_self))]; exact e
abbrev SetDoneS (P : Program) (w : World) (s : Shared) (xs : List Str) (s₂ : Shared) : Prop := ∃ (h' : Heap) (tk : Nat), s₂ = { s with heap := h', toks := tk } ∧ h'.SetOf (PySem.strKind P w) s.heap.objs.size (fun j => decide (j ∈ xs)) (dcn xs) ∧ ∀ b o, s.heap.get? b = some o → h'.get? b = some o
theorem init_set_listS {A : Around} {l : Addr} {items : Array Value} (xs : List Str) (hh : A.handled = none) (hl : s.heap.IsList l items) (hit : StrsAre items.toList xs) (hb : xs.length + 1 < scanBound) :
    wpAny (model P w) A.in1 (Builtin.«set.__init__» ⟨[.ref s.heap.objs.size, .ref l], []⟩) (fun fin s' => match fin with
      | .done f => wants (fun r s₂ => r = .none ∧ SetDoneS P w s xs s₂) E (.ok f) s'
      | .again c' => c'.quiet = true ∧ codeAny (model P w) A c' (wants (fun r s₂ => r = .none ∧ SetDoneS P w s xs s₂) E) s') (fun e s' => wants (fun r s₂ => r = .none ∧ SetDoneS P w s xs s₂) E (.error e) s') { s with heap := s.heap.push (newSet w) } := by
  have size : items.size = xs.length := by rw [← Array.length_toList]; exact StrsAre.len_eq hit
  obtain ⟨⟨c0, d0, t0, s0⟩, there, rfl, n0, rfl⟩ := id hl
  have hS : (s.heap.push (newSet w)).get? s.heap.objs.size = some (newSet w) := Heap.get?_push_size _ rfl
  have there' : (s.heap.push (newSet w)).get? l = some ⟨.type "list", d0, .seq items n0, s0⟩ := Heap.get?_push_of_some _ there
  have sub1 := F.sub_list_set
  have sub2 := F.sub_list_frozenset
  have nd : (Value.type "list" == Value.type "dict") = false := by decide
  have isl : (s.heap.push (newSet w)).IsList l items := ⟨_, there', rfl, n0, rfl⟩
  unfold Builtin.«set.__init__» noKeywords Builtin.Frozenset.updateFrom
  generalize hPI : pyIter = PI
  wp_walk
  subst hPI
  refine wpAny_pyIter_list isl (wpAny_bind (wpAny_runValue ?_))
  have small : l < s.heap.objs.size := Heap.lt_size there
  have calm : A.in1.in1.handled = none := by simp [hh]
  have sz : (s.heap.push (newSet w)).objs.size = s.heap.objs.size + 1 := Heap.size_push ..
  have n1 : l ≠ (s.heap.push (newSet w)).objs.size := by rw [sz]; exact Nat.ne_of_lt (Nat.lt_succ_of_lt small)
  have n2 : s.heap.objs.size ∉ [(s.heap.push (newSet w)).objs.size, l] := by
    rw [sz]
    intro h
    rcases List.mem_cons.1 h with h | h
    · exact absurd h (Nat.ne_of_lt (Nat.lt_succ_self _))
    · exact absurd (List.mem_singleton.1 h) (Nat.ne_of_gt small)
  have val : ∀ (i : Nat) (v : Value), items[i]? = some v → ∃ k t, xs[i]? = some k ∧ v = .str k t := fun i v hv => strs_at' hit i v (by rw [Array.getElem?_toList]; exact hv)
  have got : ((s.heap.push (newSet w)).push (listIt l)).get? s.heap.objs.size = some (newSet w) := Heap.get?_push_of_some _ hS
  refine set_update_strs ((Walks.list calm _ l n1 items).toS) s.heap.objs.size n2 xs size hb val (items.size - 0) 0 _ (by omega) (Nat.zero_le _) ⟨⟨_, Heap.get?_push_size _ rfl, rfl, rfl⟩, isl.push _⟩ ?z ?_
  case z => exact PyProof.Rows.SetOf_congr ((PyProof.Rows.setObjOf_fresh (knd := PySem.strKind P w) _).setOf got (by unfold scanBound; omega)) (fun _ => by simp) rfl
  rintro ⟨h', g2, d', tk', os'⟩ mv hR
  obtain rfl : g2 = s.gens := mv.gens
  obtain rfl : d' = s.drawn := mv.drawn
  obtain rfl : os' = s.os := mv.os
  refine wpAny_pure (wpAny_pure ⟨rfl, h', tk', rfl, hR, fun b o e => ?_⟩)
  have lt : b < s.heap.objs.size := Heap.lt_size e
  refine mv.heap b o (fun h => ?_) (Heap.get?_push_of_some _ (Heap.get?_push_of_some _ e))
  rcases List.mem_cons.1 h with h | h
  · exact absurd h (Nat.ne_of_lt lt)
  · have := List.mem_singleton.1 h
    rw [sz] at this
    exact absurd this (Nat.ne_of_lt (Nat.lt_succ_of_lt lt))
theorem call_setS {l : Addr} {items : Array Value} (xs : List Str) {Q : Value → Shared → Prop} (hh : A.handled = none) (hl : s.heap.IsList l items) (hit : StrsAre items.toList xs) (hb : xs.length + 1 < scanBound)
    (h : ∀ s₂, SetDoneS P w s xs s₂ → Q (.ref s.heap.objs.size) s₂) : wpAny (model P w) A (call (.type "set") [.ref l]) Q E s := by
  obtain ⟨c, tl, hmro⟩ := F.called_set.mro
  have k1 := F.called_set.made
  have k2 := F.called_set.sub
  refine wpAny_call (codeAny_of_tree ?_)
  show wpAny _ _ (callAny (.type "set") _) _ _ _
  refine wpAny_pure ⟨Code.quiet_builtin _ (by decide +kernel), codeAny_builtin F.entry_type_call ?_⟩
  rw [Around.under_plain (weight_type_call_type "set" [.ref l] []) rfl]
  have k3 := F.called_set.notType
  have k4 := F.called_set.canCreate
  have k5 := F.typeCall_set_1 (.ref l)
  repeat (any_goals (first | assumption | wp_step))
  refine codeAny_mono (code_set_led1 (.ref l) (E := E) (Q₁ := fun obj s₁ => obj = .ref s.heap.objs.size ∧ s₁ = { s with heap := s.heap.push (newSet w) }) ⟨rfl, rfl⟩) fun r s₁ hr => ?_
  match r, hr with
  | .error e, hr => exact hr
  | .ok (.ret obj), hr =>
    obtain ⟨rfl, rfl⟩ := hr
    have hS : (s.heap.push (newSet w)).get? s.heap.objs.size = some (newSet w) := Heap.get?_push_size _ rfl
    have hT : Shared.TypeIs { s with heap := s.heap.push (newSet w) } (.ref s.heap.objs.size) "set" := ⟨_, hS, rfl⟩
    have k6 := F.called_set.init.lookup
    have k7 := F.called_set.init.bind (.ref s.heap.objs.size)
    repeat (any_goals (first | assumption | wp_step))
    refine codeAny_mono (codeAny_call_builtin (R := wants (fun r s₂ => r = .none ∧ SetDoneS P w s xs s₂) E) F.called_set.init.plain F.entry_set_init (check_set_init_1 hT (init_set_listS xs (by simpa using hh) hl hit hb))) fun r₂ s₂ hr₂ => ?_
    match r₂, hr₂ with
    | .error e, hr₂ => exact hr₂
    | .ok (.ret r), hr₂ =>
      obtain ⟨rfl, dn⟩ := hr₂
      have dn' := dn
      obtain ⟨h', tk, rfl, hR, hk⟩ := dn
      repeat (any_goals (first | assumption | wp_step))
      exact h _ dn'
end
def tLenSetS (K : PySem.W.Frag) (ta : TE) : TE := fun σ H Q => ta σ H fun x H1 => ∃ l, ∃ xs : List Str, x = .ref l ∧ SqL K H1 l (xs.map V.str) ∧ xs.length < 1000 ∧ Q (.int (dcn xs : Nat)) H1
def lenSetO (v : Sv) (μ : Mu) : Rz Sv := match (lstV μ v).bind toDs with
  | some ds => match toStrs ds with
    | some ss => if ss.length < 1000 then okz (.int (dcn ss : Nat)) μ else none
    | none => none
  | none => none
def fLenSet (fa : Fz Sv) : Fz Sv := fun δ μ => (fa δ μ).bind fun v μ => lenSetO v μ
theorem dcn_map {α β : Type} [DecidableEq α] [DecidableEq β] (f : α → β) (hf : ∀ x y, f x = f y → x = y) : ∀ l : List α, dcn (l.map f) = dcn l
  | [] => rfl
  | x :: r => by
    have e : (f x ∈ r.map f) = (x ∈ r) := by
      apply propext; constructor
      · intro h
        obtain ⟨y, hy, e⟩ := List.mem_map.1 h
        rw [← hf _ _ e]; exact hy
      · exact fun h => List.mem_map_of_mem h
    simp only [List.map_cons, dcn, e, dcn_map f hf r]
section
variable {G : Gx} {X : Cx} {W : WX} {a : Expr} {fa : Fz Sv} {pos p p2 p0 q kp : Pos}
theorem z_lenSet (hK : G.K = X.K) (hc : X.calm = true) (hg : Gl X "len") (hm : X.mg "len" = none) (hg2 : Gl X "set") (hm2 : X.mg "set" = none) (ha : PE X a (zE G W fa))
    (na : starEach [a] X.env = (false, eval a X.env) :: starEach [] X.env := by rfl) : PE X (.Call (.Name "len" p) [.Call (.Name "set" p2) [a] [] q] [] pos) (zE G W (fLenSet fa)) := ⟨fun pins s σ H Q I h => by
  obtain ⟨F, ρ, δ, μ, rr, w, sl, e, pp⟩ := h
  refine Call_ (ld_blt I hg hm boot_len ?_)
  refine PyProof.Rows.callWith_builtin1 (PyProof.Rows.args_cons ?_ rfl) rfl rfl
  refine Call_ (ld_blt I hg2 hm2 boot_set ?_)
  have h1 : zE G W fa σ H (fun x H1 => ∃ l, ∃ xs : List Str, x = .ref l ∧ SqL X.K H1 l (xs.map V.str) ∧ xs.length < 1000 ∧ Q (.int (dcn xs : Nat)) H1) := by
    refine zstep w sl e pp fun sa μ1 v F1 ρ1 H1 g1 w1 s1 rv e1 p1 => ?_
    unfold lenSetO at e1
    split at e1
    · rename_i ds hds
      split at e1
      · rename_i ss hss
        split at e1
        · rename_i hl
          cases e1
          obtain ⟨xs, hx, hb⟩ := Option.bind_eq_some_iff.1 hds
          obtain ⟨l, vs, rfl, k1, k2⟩ := lstV_at w1 rv hx
          rw [of_toDs hb] at k2
          obtain ⟨ys, e3, e4⟩ := toStrs_at (RsL.toD k2) hss
          subst e3
          refine ⟨l, ys, rfl, by rw [← hK]; exact k1, by rw [← e4, List.length_map] at hl; exact hl, p1.ok w1 (.d ?_)⟩
          have : dcn ys = dcn ss := by
            rw [← e4]
            exact (dcn_map TL.tl (fun x y h => TL.ext_tl h) ys).symm
          rw [this]
          exact .int _
        · cases e1
      · cases e1
    · cases e1
  refine PyProof.Rows.callWith_type1 (PyProof.Rows.args_cons (thn (ha.run pins s σ H _ I h1) fun v s1 ⟨x, H1, I1, r1, q1⟩ => PyProof.Rows.args_nil ?_) na) na rfl
  obtain ⟨l, xs, rfl, hq, h1, q1⟩ := q1
  cases r1
  obtain ⟨its, r, pl, hz⟩ := I1.list hq
  refine call_setS xs (I1.ok.hd hc) pl.isList (by simpa using strsAre_of r) (by unfold scanBound; omega) fun s2 ⟨h', tk, e2, hS, hk⟩ => ?_
  subst e2
  refine PyProof.Rows.args_nil ?_
  obtain ⟨o, es, ep, t, ho, hex, hd, _, _, _, hf, hn⟩ := hS
  have I2 : Inv X pins σ H1 { s1 with heap := h', toks := tk } := I1.kept fun b o e => hk b o e
  have hdl := dcn_le xs
  exact call_len_set ho hex hd hf (by rw [hn] <;> omega) ⟨.int (dcn xs : Nat), H1, I2.tok _, ⟨_, by rw [hn]⟩, q1⟩⟩
end
@[simp] theorem lenSetO_l (ss : List (List Nat)) (μ : Mu) : lenSetO (.d (.lst (ss.map D.str))) μ = if ss.length < 1000 then okz (.int (dcn ss : Nat)) μ else none := by
  unfold lenSetO
  simp only [lstV_d, Option.bind_some, toDs_map, toStrs_map]
@[simp] theorem Ev_lenSet {P : Except Exn Sv → Mu → Prop} {δ : Dl} {μ : Mu} (fa : Fz Sv) : Ev (fLenSet fa δ μ) P = Ev (fa δ μ) (fun e μ => okc e (fun a => Ev (lenSetO a μ) P) (fun x => P (.error x) μ)) := by
  show Ev (Rz.bind _ _) _ = _
  rw [Ev_bind]
theorem dcn_pos {α : Type} [DecidableEq α] : ∀ (y : α) (r : List α), 0 < dcn (y :: r)
  | y, [] => by simp [dcn]
  | y, z :: r => by
    have := dcn_pos z r
    show 0 < (if y ∈ z :: r then dcn (z :: r) else dcn (z :: r) + 1)
    split <;> omega
theorem dcn_one {α : Type} [DecidableEq α] (l : List α) : 1 < dcn l ↔ ∃ x ∈ l, ∃ y ∈ l, x ≠ y := by
  induction l with
  | nil => simp [dcn]
  | cons x r ih =>
    show 1 < (if x ∈ r then dcn r else dcn r + 1) ↔ _
    split
    · rename_i h
      rw [ih]
      constructor
      · rintro ⟨a, ha, b, hb, e⟩; exact ⟨a, List.mem_cons_of_mem _ ha, b, List.mem_cons_of_mem _ hb, e⟩
      · rintro ⟨a, ha, b, hb, e⟩
        have ha' : a ∈ r := by
          rcases List.mem_cons.1 ha with e2 | ha
          · rw [e2]; exact h
          · exact ha
        have hb' : b ∈ r := by
          rcases List.mem_cons.1 hb with e2 | hb
          · rw [e2]; exact h
          · exact hb
        exact ⟨a, ha', b, hb', e⟩
    · rename_i h
      cases r with
      | nil => simp [dcn]
      | cons y r =>
        have hp := dcn_pos y r
        constructor
        · intro _
          exact ⟨x, List.mem_cons_self, y, List.mem_cons_of_mem _ List.mem_cons_self, fun e => h (by rw [e]; exact List.mem_cons_self)⟩
        · intro _; omega
/-! ## max(.., default=i), max(..), min(..) of whole numbers -/
def maxL : List Int → Int → Int
  | [], d => d
  | n :: r, _ => r.foldl max n
def maxDO (d : Int) (v : Sv) (μ : Mu) : Rz Sv := match (lstV μ v).bind toIs with
  | some ns => okz (.int (maxL ns d)) μ
  | none => none
def fMaxD (d : Int) (fa : Fz Sv) : Fz Sv := fun δ μ => (fa δ μ).bind fun v μ => maxDO d v μ
theorem dpAll_ints {K : PySem.W.Frag} {H : Hp} : ∀ l : List Int, DpAll K H (l.map V.int) (l.map PyData.int)
  | [] => .nil
  | x :: r => .cons (.int x) (dpAll_ints r)
theorem alike_ints (l : List Int) : PySem.W.AlikeAll (l.map PyData.int) := by
  constructor
  · intro x hx y hy
    obtain ⟨a, _, rfl⟩ := List.mem_map.1 hx
    obtain ⟨b, _, rfl⟩ := List.mem_map.1 hy
    rfl
  · intro x hx
    obtain ⟨a, _, rfl⟩ := List.mem_map.1 hx
    exact nofun
section
variable {G : Gx} {X : Cx} {W : WX} {a : Expr} {fa : Fz Sv} {pos p p2 p0 q kp : Pos} {j : Nat}
theorem z_maxD {d : Int} (hK : G.K = X.K) (hc : X.calm = true) (hu : X.A.units + 64 < cLine) (hg : Gl X "max") (hm : X.mg "max" = none) (ha : PE X a (zE G W fa))
    (na : starEach [a] X.env = (false, eval a X.env) :: starEach [] X.env := by rfl) (nb : backTo pos (starEach [a] X.env) = (false, eval a X.env) :: backTo pos (starEach [] X.env) := by rfl) (nc : (backTo pos (starEach [a] X.env)).any (·.1) = false := by rfl) : PE X (.Call (.Name "max" p) [a] [⟨some "default", .Constant (.int d) j p2, kp⟩] pos) (zE G W (fMaxD d fa)) := ⟨fun pins s σ H Q I h => by
  obtain ⟨F, ρ, δ, μ, rr, w, sl, e, pp⟩ := h
  have h1 : zE G W fa σ H (fun x H1 => ∃ l, ∃ ns : List Int, x = .ref l ∧ SqL X.K H1 l (ns.map V.int) ∧ Q (.int (maxL ns d)) H1) := by
    refine zstep w sl e pp fun sa μ1 v F1 ρ1 H1 g1 w1 s1 rv e1 p1 => ?_
    unfold maxDO at e1
    split at e1
    · rename_i ns hns
      cases e1
      obtain ⟨xs, hx, hb⟩ := Option.bind_eq_some_iff.1 hns
      obtain ⟨l, vs, rfl, k1, k2⟩ := lstV_at w1 rv hx
      have := toIs_at k2 hb
      subst this
      exact ⟨l, ns, rfl, by rw [← hK]; exact k1, p1.ok w1 (.d (.int _))⟩
    · cases e1
  refine wpAny_Call_Name_kw (ld_blt (u := .builtin "max") I hg hm (by decide +kernel) ?_)
  refine PyProof.Rows.callWith_kw (PyProof.Rows.args_cons (thn (ha.run pins s σ H _ I h1) fun v s1 ⟨x, H1, I1, r1, l, ns, ex, hq, q1⟩ => PyProof.Rows.args_nil ?_) na) nb nc rfl rfl
  subst ex
  cases r1
  refine PyProof.Rows.kws_cons (wpAny_Constant_int (PyProof.Rows.kws_nil ?_))
  have I2 : Inv X pins σ H1 { s1 with toks := s1.toks + 1 } := I1.tok _
  obtain ⟨its, r, pl, hz⟩ := I2.list hq
  obtain ⟨as, rd⟩ := Dp.readsAll I2 _ _ _ (dpAll_ints ns) r
  have hd : PyData.depthAll (ns.map PyData.int) = 0 := by
    clear rd r hq q1 hz
    induction ns with
    | nil => rfl
    | cons n t ih => simp only [List.map_cons, PyData.depthAll, PyData.depth, ih]; rfl
  refine PySem.W.max_list_default (I2.ok.hd hc) pl.isList (by simpa using rd) (alike_ints ns) (by rw [hd]; omega) (fun e h' tk hk => ?_) fun y ys i v h' tk bs e hv rd2 hk => ?_
  · have : ns = [] := List.map_eq_nil_iff.1 e
    subst this
    exact ⟨.int d, H1, I2.kept hk, ⟨_, rfl⟩, q1⟩
  · cases ns with
    | nil => cases e
    | cons n t =>
      simp only [List.map_cons, List.cons.injEq] at e
      obtain ⟨rfl, rfl⟩ := e
      rw [PySem.W.maxD_ints] at rd2
      cases rd2
      exact ⟨.int (t.foldl max n), H1, I2.kept hk, ⟨_, rfl⟩, q1⟩⟩
def bMaxL : Opn := fun as μ => match as with
  | [v] => match (lstV μ v).bind toIs with
    | some (n :: r) => okz (.int (r.foldl max n)) μ
    | _ => none
  | _ => none
def bMinL : Opn := fun as μ => match as with
  | [v] => match (lstV μ v).bind toIs with
    | some (n :: r) => okz (.int (r.foldl min n)) μ
    | _ => none
  | _ => none
theorem fold_max (r : List Int) : ∀ n : Int, (r.foldl max n) ∈ n :: r ∧ ∀ y ∈ n :: r, y ≤ r.foldl max n := by
  induction r with
  | nil => intro n; simp
  | cons k r ih =>
    intro n
    obtain ⟨h1, h2⟩ := ih (max n k)
    refine ⟨?_, fun y hy => ?_⟩
    · rcases List.mem_cons.1 h1 with e | h1
      · show r.foldl max (max n k) ∈ _
        rw [e]
        by_cases hk : n ≤ k
        · rw [Int.max_eq_right hk]; simp
        · rw [Int.max_eq_left (by omega)]; simp
      · exact List.mem_cons_of_mem _ (List.mem_cons_of_mem _ h1)
    · have hm := h2 (max n k) List.mem_cons_self
      show y ≤ r.foldl max (max n k)
      rcases List.mem_cons.1 hy with rfl | hy
      · omega
      · rcases List.mem_cons.1 hy with rfl | hy
        · omega
        · exact h2 y (List.mem_cons_of_mem _ hy)
theorem fold_min (r : List Int) : ∀ n : Int, (r.foldl min n) ∈ n :: r ∧ ∀ y ∈ n :: r, r.foldl min n ≤ y := by
  induction r with
  | nil => intro n; simp
  | cons k r ih =>
    intro n
    obtain ⟨h1, h2⟩ := ih (min n k)
    refine ⟨?_, fun y hy => ?_⟩
    · rcases List.mem_cons.1 h1 with e | h1
      · show r.foldl min (min n k) ∈ _
        rw [e]
        by_cases hk : n ≤ k
        · rw [Int.min_eq_left hk]; simp
        · rw [Int.min_eq_right (by omega)]; simp
      · exact List.mem_cons_of_mem _ (List.mem_cons_of_mem _ h1)
    · have hm := h2 (min n k) List.mem_cons_self
      show r.foldl min (min n k) ≤ y
      rcases List.mem_cons.1 hy with rfl | hy
      · omega
      · rcases List.mem_cons.1 hy with rfl | hy
        · omega
        · exact h2 y (List.mem_cons_of_mem _ hy)
theorem so_maxL (hK : G.K = X.K) : SOpn G W (rMax X.K) bMaxL := by
  intro F ρ μ H σ vs as rr Q w r h p
  unfold bMaxL at h
  split at h
  · split at h
    · rename_i n t hb
      cases h
      obtain ⟨xs, hx, hb⟩ := Option.bind_eq_some_iff.1 hb
      cases r with
      | cons r t' =>
        cases t'
        obtain ⟨ax, ws, rfl, h2, h3⟩ := lstV_at w r hx
        refine ⟨ax, n :: t, rfl, by rw [← hK, ← toIs_at h3 hb]; exact h2, by simp, fun m hm hle => ?_⟩
        obtain ⟨f1, f2⟩ := fold_max t n
        have : m = t.foldl max n := by
          have a := hle _ f1
          have b := f2 _ hm
          omega
        subst this
        exact p.ok w (.d (.int _))
    · cases h
  · cases h
theorem so_minL (hK : G.K = X.K) : SOpn G W (rMin X.K) bMinL := by
  intro F ρ μ H σ vs as rr Q w r h p
  unfold bMinL at h
  split at h
  · split at h
    · rename_i n t hb
      cases h
      obtain ⟨xs, hx, hb⟩ := Option.bind_eq_some_iff.1 hb
      cases r with
      | cons r t' =>
        cases t'
        obtain ⟨ax, ws, rfl, h2, h3⟩ := lstV_at w r hx
        refine ⟨ax, n :: t, rfl, by rw [← hK, ← toIs_at h3 hb]; exact h2, by simp, fun m hm hle => ?_⟩
        obtain ⟨f1, f2⟩ := fold_min t n
        have : m = t.foldl min n := by
          have a := hle _ f1
          have b := f2 _ hm
          omega
        subst this
        exact p.ok w (.d (.int _))
    · cases h
  · cases h
/-! ## xs.count(True) -/
def toBls : List Sv → Option (List Bool)
  | [] => some []
  | .d (.bl b) :: r => (toBls r).map fun t => b :: t
  | _ => none
theorem toBls_at {F : Hp} {ρ : List Addr} : ∀ {vs : List V} {xs : List Sv} {bs : List Bool}, RsL G F ρ vs xs → toBls xs = some bs → vs = bs.map V.bl
  | _, [], _, .nil, h => by cases h; rfl
  | _, .d (.bl b) :: r, bs, .cons (.d h1) t, h => by
    simp only [toBls] at h
    cases e : toBls r with
    | none => rw [e] at h; cases h
    | some q => rw [e] at h; cases h; cases h1; rw [List.map_cons, toBls_at t e]
@[simp] theorem toBls_map : ∀ l : List Bool, toBls (l.map fun b => Sv.d (.bl b)) = some l
  | [] => rfl
  | b :: r => by simp [toBls, toBls_map r]
def eqb (k : Bool) (v : Value) : Bool := match v with
  | .bool n => n == k
  | _ => false
theorem eqb_gives {A : Around} {s : Shared} {k : Bool} : ∀ {ns : List Bool} {us : List Value}, Vals (ns.map V.bl) us → ∀ y ∈ us, PySem.SeqAt.EqAt A s y (.bool k) (eqb k y)
  | [], us, h => fun y hy => by
    cases h; cases hy
  | n :: ns, us, h => fun y hy => by
    obtain ⟨u, us', rfl, h, t⟩ : ∃ u us', us = u :: us' ∧ RelV (.bl n) u ∧ Vals (ns.map V.bl) us' := by
      cases h with
      | cons a b => exact ⟨_, _, rfl, a, b⟩
    rcases List.mem_cons.mp hy with e | e
    · rw [e]
      have h' := h
      cases h'
      exact PySem.SeqAt.EqAt.bool_bool n k
    · exact eqb_gives t y e
theorem eqb_count {k : Bool} : ∀ {ns : List Bool} {us : List Value}, Vals (ns.map V.bl) us → us.countP (eqb k) = ns.count k
  | [], us, h => by cases h; rfl
  | n :: ns, us, h => by
    obtain ⟨u, us', rfl, h, t⟩ : ∃ u us', us = u :: us' ∧ RelV (.bl n) u ∧ Vals (ns.map V.bl) us' := by
      cases h with
      | cons a b => exact ⟨_, _, rfl, a, b⟩
    have h' := h
    cases h'
    rw [List.countP_cons, List.count_cons, eqb_count t]
    rfl
def rCntB (K : PySem.W.Frag) : V → List V → Hp → VK → Prop := fun x xs H Q => ∃ (p : Addr) (ns : List Bool) (k : Bool), x = .ref p ∧ xs = [.bl k] ∧ SqL K H p (ns.map V.bl) ∧ Q (.int (ns.count k : Nat)) H
theorem mt_lcountB : MtR X "list.count" (rCntB X.K) := by
  intro pins s σ H x xs v us Q I rx rxs h
  obtain ⟨p, ns, k, rfl, rfl, hs, q⟩ := h
  cases rx
  obtain ⟨u, rfl, ru⟩ := rxs.one
  cases ru
  obtain ⟨its, rv, ⟨⟨cls, dd, data, sl⟩, n, ho, hc, hdn, hd⟩, hlen⟩ := I.list hs
  simp only at hc hd
  subst hc hd
  refine call_meets PySem.F.slot_list_count ⟨_, ho, rfl⟩ PySem.F.entry_list_count (PySem.F.args_list_count_2 _ _)
    (SeqAt.list_countAt p its.toArray n dd sl (.bool k) (eqb k)) ⟨ho, fun y hy => eqb_gives rv y (by simpa using hy), ?_⟩
  have ec : its.toArray.toList.countP (eqb k) = ns.count k := eqb_count rv
  refine ⟨.int (ns.count k : Nat), H, I.tok _, ⟨s.toks, ?_⟩, q⟩
  show Value.int ((its.toArray.toList.countP (eqb k) : Nat) : Int) s.toks = Value.int ((ns.count k : Nat) : Int) s.toks
  rw [ec]
def mCntB : Opm := fun o as μ => match (lstV μ o).bind toBls, as with
  | some bs, [.d (.bl k)] => okz (.int (bs.count k : Nat)) μ
  | _, _ => none
theorem so_cntB (hK : G.K = X.K) : SOm G W (rCntB X.K) mCntB := by
  intro F ρ μ H σ x o vs as rr Q w rx r h p
  unfold mCntB at h
  split at h
  · rename_i bs k hb
    cases h
    obtain ⟨xs, hx, hb⟩ := Option.bind_eq_some_iff.1 hb
    obtain ⟨ax, ws, rfl, h2, h3⟩ := lstV_at w rx hx
    cases r with
    | cons r t =>
      cases t
      cases r with
      | d r =>
        cases r
        exact ⟨ax, bs, k, rfl, rfl, by rw [← hK, ← toBls_at h3 hb]; exact h2, p.ok w (.d (.int _))⟩
  · cases h
end
section
variable {P : Except Exn Sv → Mu → Prop} {δ : Dl} {μ : Mu}
@[simp] theorem Ev_maxD (d : Int) (fa : Fz Sv) : Ev (fMaxD d fa δ μ) P = Ev (fa δ μ) (fun e μ => okc e (fun a => Ev (maxDO d a μ) P) (fun x => P (.error x) μ)) := by
  show Ev (Rz.bind _ _) _ = _
  rw [Ev_bind]
theorem maxDO_l (d : Int) (ns : List Int) : maxDO d (.d (.lst (ns.map D.int))) μ = okz (.int (maxL ns d)) μ := by
  unfold maxDO
  simp only [lstV_d, Option.bind_some]
  rw [show (ns.map D.int).map Sv.d = ns.map fun b => Sv.d (.int b) by rw [List.map_map]; rfl, toIs_map]
theorem bMaxL_l (n : Int) (ns : List Int) : bMaxL [.d (.lst ((n :: ns).map D.int))] μ = okz (.int (ns.foldl max n)) μ := by
  unfold bMaxL
  simp only [lstV_d, Option.bind_some]
  rw [show ((n :: ns).map D.int).map Sv.d = (n :: ns).map fun b => Sv.d (.int b) by rw [List.map_map]; rfl, toIs_map]
theorem bMinL_l (n : Int) (ns : List Int) : bMinL [.d (.lst ((n :: ns).map D.int))] μ = okz (.int (ns.foldl min n)) μ := by
  unfold bMinL
  simp only [lstV_d, Option.bind_some]
  rw [show ((n :: ns).map D.int).map Sv.d = (n :: ns).map fun b => Sv.d (.int b) by rw [List.map_map]; rfl, toIs_map]
@[simp] theorem Ev_addRep (c y z : List Nat) (fa : Fz Sv) : Ev (fAddRep c y z fa δ μ) P = Ev (fa δ μ) (fun e μ => okc e (fun a => Ev (addRepO c y z a μ) P) (fun x => P (.error x) μ)) := by
  show Ev (Rz.bind _ _) _ = _
  rw [Ev_bind]
@[simp] theorem addRepO_s (c y z x : List Nat) : addRepO c y z (.d (.str x)) μ = if x.length + (x.length + 1) * z.length ≤ 16777216 ∧ c.length + (PySem.StrLaws.replL y z x).length ≤ 16777216 then okz (.str (c ++ PySem.StrLaws.replL y z x)) μ else none := rfl
@[simp] theorem mSplit_s (x b : List Nat) : mSplit (.d (.str x)) [.d (.str b)] μ = if b ≠ [] ∧ b.all (· < 256) = true ∧ x.length + 2 ≤ 16777216 then okz (.lst ((TL.spl b 0 [] x).map D.str)) μ else none := rfl
@[simp] theorem bStr_i (i : Int) : bStr [.d (.int i)] μ = if i.natAbs.log2 < 1920 then okz (.str (strI i)) μ else none := rfl
end
end Z
namespace Z
open PySem PySem.Spec PyProof.Rows L2
/-! ## a list of two, a new cell -/
def oAddC : Op2 := fun a b μ => match lstV μ a, lstV μ b with
  | some xs, some ys => if xs.length + ys.length ≤ 16777216 then some (.ok (.c μ.length), μ ++ [.lst (xs ++ ys)]) else none
  | _, _ => none
section
variable {G : Gx} {X : Cx} {W : WX}
theorem so_addC (hK : G.K = X.K) : SOp2 G W (rCatR X.K) oAddC := by
  intro F ρ μ H σ x y a b rr Q w rx ry h p
  unfold oAddC at h
  split at h
  · rename_i xs ys h1 h2
    split at h
    · rename_i hl
      cases h
      obtain ⟨ax, us, rfl, k1, k2⟩ := lstV_at w rx h1
      obtain ⟨bx, vs, rfl, k3, k4⟩ := lstV_at w ry h2
      refine ⟨ax, bx, us, vs, rfl, rfl, by rw [← hK]; exact k1, by rw [← hK]; exact k3, by rw [szl, k2.len, k4.len]; exact hl, fun q hq => ?_⟩
      have g0 : Gr F F ρ (ρ ++ [q]) := ⟨Ex.refl F, [q], rfl⟩
      obtain ⟨w2, g2⟩ := w.newC (p := q) (o := .lst (us ++ vs)) (c := .lst (xs ++ ys)) hq ⟨w.ex.none hq, us ++ vs, upd_same, (k2.mono g0).app (k4.mono g0)⟩
      have hn : (ρ ++ [q])[μ.length]? = some q := by rw [← w.len]; simp
      exact p _ _ _ _ g2 w2 (.c hn)
    · cases h
  · cases h
/-! ## is True, is False -/
theorem op_is_bl : OpR X (compareOp .Is) (fun x y H Q => ∃ a b, x = .bl a ∧ y = .bl b ∧ Q (.bl (decide (a = b))) H) := by
  intro pins s σ H x y v u Q I rx ry h
  obtain ⟨a, b, rfl, rfl, q⟩ := h
  cases (show v = Value.bool a from rx)
  cases (show u = Value.bool b from ry)
  exact wpAny_is_plain rfl (fin_bl I q (by cases a <;> cases b <;> rfl))
def oIsB : Op2 := fun a b μ => match a, b with
  | .d (.bl x), .d (.bl y) => okz (.bl (decide (x = y))) μ
  | _, _ => none
theorem so_isB : SOp2 G W (fun x y H Q => ∃ a b, x = .bl a ∧ y = .bl b ∧ Q (.bl (decide (a = b))) H) oIsB := by
  intro F ρ μ H σ x y a b rr Q w rx ry h p
  unfold oIsB at h
  split at h
  · cases h; cases rx with | d rx => cases rx; cases ry with | d ry => cases ry; exact ⟨_, _, rfl, rfl, p.ok w (.d (.bl _))⟩
  · cases h
end
@[simp] theorem oIsB_b {a b : Bool} {μ : Mu} : oIsB (.d (.bl a)) (.d (.bl b)) μ = okz (.bl (decide (a = b))) μ := rfl
theorem oAddC_l {μ : Mu} {a b : Sv} {xs ys : List Sv} (h1 : lstV μ a = some xs) (h2 : lstV μ b = some ys) (hl : xs.length + ys.length ≤ 16777216) : oAddC a b μ = some (.ok (.c μ.length), μ ++ [.lst (xs ++ ys)]) := by
  unfold oAddC; rw [h1, h2]; simp [hl]
theorem lstV_c {μ : Mu} {n : Nat} {xs : List Sv} (h : μ[n]? = some (.lst xs)) : lstV μ (.c n) = some xs := by simp [lstV, h]
end Z
namespace Z
open PySem PySem.Spec PyProof.Rows L2
/-! ## comprehensions over what was made for them -/
section
variable {P : Except Exn Sv → Mu → Prop} {δ : Dl} {μ : Mu} {vs : List Nat} {g : Tz} {e : Fz Sv}
theorem Ev_mapK {fi : Fz Wk} (k : Wk) (t1 : Mu) (hi : Ev (fi δ μ) fun r μ' => r = .ok k ∧ μ' = μ ++ t1) (hk : ∀ t, k.chk (μ ++ t1 ++ t)) (hn : k.items.length ≤ 16777216) (R : Nat → D → Prop)
    (hs : ∀ (i : Nat) (x : Sv) (μ' : Mu), k.items[i]? = some x → someD (g x (wipeZ δ vs)) fun δ1 => Ev (e δ1 μ') fun r μ2 => ∃ y, r = .ok (.d y) ∧ μ2 = μ' ∧ R i y)
    (he : ∀ acc : List D, acc.length = k.items.length → (∀ i y, acc[i]? = some y → R i y) → P (.ok (.d (.lst acc))) μ) : Ev (fFrz (fLcW fi vs g fYes e) δ μ) P := by
  have hL : (μ ++ t1).length = μ.length + t1.length := by simp
  have run : ∀ (ys : List Sv) (j : Nat) (acc : List D), (∀ i x, ys[i]? = some x → k.items[j + i]? = some x) → j + ys.length = k.items.length → acc.length = j → (∀ i y, acc[i]? = some y → R i y) →
      ∃ acc' : List D, acc'.length = k.items.length ∧ (∀ i y, acc'[i]? = some y → R i y) ∧ lcLW k.chk g fYes e (μ ++ t1).length (wipeZ δ vs) ys (μ ++ t1 ++ [.lst (acc.map Sv.d)]) = some (μ ++ t1 ++ [.lst (acc'.map Sv.d)]) := by
    intro ys
    induction ys with
    | nil =>
      intro j acc hd hj hl hR
      simp at hj
      exact ⟨acc, by omega, hR, by unfold lcLW; rw [if_pos (hk _)]⟩
    | cons y ys ih =>
      intro j acc hd hj hl hR
      simp only [List.length_cons] at hj
      have h := hs j y (μ ++ t1 ++ [.lst (acc.map Sv.d)]) (by simpa using hd 0 y rfl)
      cases hg : g y (wipeZ δ vs) with
      | none => rw [hg] at h; exact h.elim
      | some δ1 =>
        rw [hg] at h
        obtain ⟨r, μ2, e1, z, rfl, rfl, hz⟩ := h
        obtain ⟨acc', a1, a2, a3⟩ := ih (j + 1) (acc ++ [z]) (fun i x q => by
            have := hd (i + 1) x q
            rwa [show j + (i + 1) = j + 1 + i by omega] at this) (by omega) (by simp [hl]) (fun i w hw => by
            by_cases hi : i < acc.length
            · rw [List.getElem?_append_left hi] at hw; exact hR i w hw
            · rw [List.getElem?_append_right (by omega)] at hw
              have : i = acc.length := by
                have := (List.getElem?_eq_some_iff.1 hw).1
                simp at this; omega
              subst this
              simp at hw; subst hw; rw [hl]; exact hz)
        refine ⟨acc', a1, a2, ?_⟩
        have q1 : (μ ++ t1 ++ [Cell.lst (acc.map Sv.d)])[(μ ++ t1).length]? = some (.lst (acc.map Sv.d)) := by simp
        have q2 : (μ ++ t1 ++ [Cell.lst (acc.map Sv.d)]).set (μ ++ t1).length (.lst (acc.map Sv.d ++ [.d z])) = μ ++ t1 ++ [.lst ((acc ++ [z]).map Sv.d)] := by simp
        unfold lcLW; rw [if_pos (hk _)]
        simp only [hg, fYes_eq, e1, q1]
        rw [if_pos (by simp; omega), q2, a3]
  obtain ⟨acc, a1, a2, a3⟩ := run k.items 0 [] (fun i x h => by simpa using h) (by simp) rfl (fun i y h => by simp at h)
  refine ⟨.ok (.d (.lst acc)), μ, ?_, he acc a1 a2⟩
  have e2 : fLcW fi vs g fYes e δ μ = some (.ok (.c (μ ++ t1).length), μ ++ t1 ++ [.lst (acc.map Sv.d)]) := by
    show Rz.bind (fi δ μ) _ = _
    obtain ⟨r0, μ0, hi1, rfl, rfl⟩ := hi
    rw [hi1]; simp only [Rz.bind_ok]
    have : (μ ++ t1 ++ [Cell.lst []]) = μ ++ t1 ++ [.lst (([] : List D).map Sv.d)] := rfl
    rw [this, a3]
  show Rz.bind _ _ = _
  rw [e2]; simp only [Rz.bind_ok]
  have q1 : (μ ++ t1 ++ [Cell.lst (acc.map Sv.d)])[(μ ++ t1).length]? = some (.lst (acc.map Sv.d)) := by simp
  have q2 : (μ ++ t1 ++ [Cell.lst (acc.map Sv.d)]).set (μ ++ t1).length .fz = μ ++ (t1 ++ [.fz]) := by simp
  simp only [frzV, q1, toDs_map, q2]
  rw [gc_app]
end
/-! ## one of each: of methods, of calls -/
/-- the method m of the thing o gives v, and changes nothing -/
def Has (tbl : List (String × Fn × List D)) (m : String) (o v : D) : Prop := ∃ fn : Fn, (∀ μ, pick m tbl μ (.d o) = some (fn, [])) ∧ ∀ μ, fn [.d o] μ = some (.ok (.d v), μ)
theorem Has.ev {tbl : List (String × Fn × List D)} {m : String} {o v : D} (h : Has tbl m o v) {fo : Fz Sv} {δ : Dl} {μ : Mu} {P : Except Exn Sv → Mu → Prop} (ho : Ev (fo δ μ) fun r μ' => r = .ok (.d o) ∧ μ' = μ) (p : P (.ok (.d v)) μ) : Ev (fMeth m tbl fo fNil δ μ) P := by
  obtain ⟨fn, e1, e2⟩ := h
  rw [Ev_meth]
  obtain ⟨r, μ', h1, rfl, rfl⟩ := ho
  refine ⟨_, _, h1, ?_⟩
  simp only [okc_ok, e1, pickc_s, Ev_nil]
  exact Ev_of (e2 _) p
section
variable {P : Except Exn Sv → Mu → Prop} {δ : Dl} {μ : Mu}
theorem list_eq {α : Type} {acc vs : List α} {n : Nat} (h1 : acc.length = n) (h2 : vs.length = n) (h : ∀ (i : Nat) (y : α), acc[i]? = some y → vs[i]? = some y) : acc = vs := by
  apply List.ext_getElem?
  intro i
  by_cases hi : i < acc.length
  · rw [List.getElem?_eq_getElem hi, h i _ (List.getElem?_eq_getElem hi)]
  · rw [List.getElem?_eq_none (by omega), List.getElem?_eq_none (by omega)]
/-- [e for x in l]: x in the slot s -/
theorem Ev_map1 {fi : Fz Wk} {s : Nat} {e : Fz Sv} {os ws : List D} (hi : Ev (fi δ μ) fun r μ' => r = .ok ⟨os.map Sv.d, fun _ => True⟩ ∧ μ' = μ) (hl : os.length = ws.length) (hn : os.length ≤ 16777216)
    (h : ∀ (i : Nat) (o v : D), os[i]? = some o → ws[i]? = some v → ∀ μ', Ev (e ((wipeZ δ [s]).set s (some (.d o))) μ') fun r μ2 => r = .ok (.d v) ∧ μ2 = μ') (p : P (.ok (.d (.lst ws))) μ) : Ev (fFrz (fLcW fi [s] (gN s) fYes e) δ μ) P := by
  refine Ev_map (os.map Sv.d) hi (by simpa using hn) (fun i y => ws[i]? = some y) ?_ ?_
  · intro i x μ' hx
    rw [List.getElem?_map] at hx
    cases ho : os[i]? with
    | none => rw [ho] at hx; cases hx
    | some o =>
      rw [ho] at hx; cases hx
      have hi := (List.getElem?_eq_some_iff.1 ho).1
      have hv := List.getElem?_eq_getElem (show i < ws.length by omega)
      simp only [gN_eq, someD_s]
      refine (h i o _ ho hv μ').imp ?_
      rintro _ _ ⟨rfl, rfl⟩
      exact ⟨_, rfl, rfl, hv⟩
  · intro acc h1 h2
    rw [list_eq (n := ws.length) (by simpa [hl] using h1) rfl h2]; exact p
/-- .. where the list was made for it -/
theorem Ev_map1K {fi : Fz Wk} {s : Nat} {e : Fz Sv} {os ws : List D} (hi : Ev (fi δ μ) fun r μ' => r = .ok ⟨os.map Sv.d, fun ν => ν[μ.length]? = some (.lst (os.map Sv.d))⟩ ∧ μ' = μ ++ [.lst (os.map Sv.d)]) (hl : os.length = ws.length) (hn : os.length ≤ 16777216)
    (h : ∀ (i : Nat) (o v : D), os[i]? = some o → ws[i]? = some v → ∀ μ', Ev (e ((wipeZ δ [s]).set s (some (.d o))) μ') fun r μ2 => r = .ok (.d v) ∧ μ2 = μ') (p : P (.ok (.d (.lst ws))) μ) : Ev (fFrz (fLcW fi [s] (gN s) fYes e) δ μ) P := by
  refine Ev_mapK ⟨os.map Sv.d, fun ν => ν[μ.length]? = some (.lst (os.map Sv.d))⟩ [.lst (os.map Sv.d)] hi (fun t => by simp) (by simpa using hn) (fun i y => ws[i]? = some y) ?_ ?_
  · intro i x μ' hx
    simp only [List.getElem?_map] at hx
    cases ho : os[i]? with
    | none => rw [ho] at hx; cases hx
    | some o =>
      rw [ho] at hx; cases hx
      have hi := (List.getElem?_eq_some_iff.1 ho).1
      have hv := List.getElem?_eq_getElem (show i < ws.length by omega)
      simp only [gN_eq, someD_s]
      refine (h i o _ ho hv μ').imp ?_
      rintro _ _ ⟨rfl, rfl⟩
      exact ⟨_, rfl, rfl, hv⟩
  · intro acc h1 h2
    rw [list_eq (n := ws.length) (by simpa [hl] using h1) rfl h2]; exact p
theorem fVar_set {s : Nat} {x : Sv} (h : s < δ.length) : fVar s (δ.set s (some x)) μ = some (.ok x, μ) := by
  unfold fVar
  simp [h]
theorem wipeZ_len : ∀ (vs : List Nat) (δ : Dl), (wipeZ δ vs).length = δ.length
  | [], δ => rfl
  | v :: vs, δ => by simp [wipeZ, wipeZ_len vs]
end
end Z
namespace Z
open PySem PySem.Spec PyProof.Rows L2
/-! ## a text times a number -/
theorem foldl_apA (x : Array Nat) : ∀ (l : List (Array Nat)) (a : Array Nat), (l.foldl (· ++ ·) a).toList = a.toList ++ (l.map Array.toList).flatten
  | [], a => by simp
  | y :: r, a => by
    rw [List.foldl_cons, foldl_apA x r]; simp
theorem mul_list (x : Str) (n : Int) : (Txt.mul x n).cps.toList = (List.replicate n.toNat x.cps.toList).flatten := by
  unfold Txt.mul
  by_cases h1 : n < 1
  · rw [if_pos h1, show n.toNat = 0 by omega]; rfl
  · rw [if_neg h1]
    by_cases h2 : (n == 1 || x.length == 0) = true
    · rw [if_pos h2]
      rw [Bool.or_eq_true] at h2
      rcases h2 with h | h
      · have : n = 1 := by simpa using h
        subst this; simp
      · have h0 : x.cps.toList = [] := by
          have : x.length = 0 := by simpa using h
          rw [lenS] at this
          exact List.length_eq_zero_iff.1 this
        rw [h0]; simp
    · rw [if_neg h2]
      show ((List.replicate n.toNat x.cps).foldl (· ++ ·) #[]).toList = _
      rw [foldl_apA x.cps]; simp
def oMulS : Op2 := fun a b μ => match a, b with
  | .d (.str x), .d (.int n) => if -1000 ≤ n ∧ n ≤ 10000 ∧ x.length ≤ 1000 then okz (.str (List.replicate n.toNat x).flatten) μ else none
  | _, _ => none
section
variable {G : Gx} {X : Cx} {W : WX}
def rMulS : R2 := fun x y H Q => ∃ (z : Str) (n : Int), x = .str z ∧ y = .int n ∧ (-1000 ≤ n ∧ n ≤ 10000 ∧ z.length ≤ 1000) ∧ Q (.str (Txt.mul z n)) H
theorem op_mulS : OpR X (binaryOp .Mult) rMulS := by
  intro pins s σ H x y v u Q I rx ry h
  obtain ⟨z, n, rfl, rfl, hb, q⟩ := h
  obtain ⟨t, rfl⟩ := rx
  obtain ⟨t', rfl⟩ := ry
  refine PySem.SB.mul ⟨?_, fun h1 _ h2 => ?_, fun h1 _ => ?_⟩ fun t2 k => ⟨.str (Txt.mul z n), H, I.tok k, ⟨t2, rfl⟩, q⟩
  · simp; omega
  · have hp : 0 < n := by omega
    have h3 : (z.length : Int) ≤ (2 ^ 63 - 1) / n := by
      apply (Int.le_ediv_iff_mul_le hp).2
      have : (z.length : Int) * n ≤ 1000 * 10000 := by
        apply Int.mul_le_mul <;> omega
      omega
    omega
  · have : z.length * n.toNat ≤ 1000 * 10000 := Nat.mul_le_mul hb.2.2 (by omega)
    have e := szl
    show Builtin.Str.tooLong _ = false
    unfold Builtin.Str.tooLong
    simp
    omega
theorem so_mulS : SOp2 G W rMulS oMulS := by
  intro F ρ μ H σ x y a b rr Q w rx ry h p
  unfold oMulS at h
  split at h
  · split at h
    · rename_i hb
      cases h
      cases rx with | d rx => cases rx; cases ry with | d ry => cases ry; exact ⟨_, _, rfl, rfl, by rw [lenS]; exact hb, p.ok w (.d (rpS (mul_list _ _)))⟩
    · cases h
  · cases h
def oMul : Op2 := fun a b μ => match a with
  | .d (.int i) => oMulI (.d (.int i)) b μ
  | a => oMulS a b μ
def rMulZ : R2 := fun x y H Q => rI CMul (fun i j => .int (i * j)) x y H Q ∨ rMulS x y H Q
theorem op_mulZ : OpR X (binaryOp .Mult) rMulZ := orR op_mul op_mulS
theorem so_mul : SOp2 G W rMulZ oMul := by
  intro F ρ μ H σ x y a b rr Q w rx ry h p
  unfold oMul at h
  split at h
  · exact .inl (so_mulI F ρ μ H σ x y _ b rr Q w rx ry h p)
  · exact .inr (so_mulS F ρ μ H σ x y a b rr Q w rx ry h p)
end
@[simp] theorem oMul_i {i : Int} {b : Sv} {μ : Mu} : oMul (.d (.int i)) b μ = oMulI (.d (.int i)) b μ := rfl
@[simp] theorem oMul_s {x : List Nat} {n : Int} {μ : Mu} : oMul (.d (.str x)) (.d (.int n)) μ = if -1000 ≤ n ∧ n ≤ 10000 ∧ x.length ≤ 1000 then okz (.str (List.replicate n.toNat x).flatten) μ else none := rfl
end Z
namespace Z
open PySem PySem.Spec PyProof.Rows L2
/-! ## cells: a comprehension kept as a cell, a thing made of a cell -/
section
variable {P : Except Exn Sv → Mu → Prop} {R : Fl → Dl → Mu → Prop} {δ : Dl} {μ : Mu} {g : Tz} {e : Fz Sv} {n : Nat}
theorem Ev_mapKC {vs : List Nat} {fi : Fz Wk} (k : Wk) (t1 : Mu) (hi : Ev (fi δ μ) fun r μ' => r = .ok k ∧ μ' = μ ++ t1) (hk : ∀ t, k.chk (μ ++ t1 ++ t)) (hn : k.items.length ≤ 16777216) (R : Nat → D → Prop)
    (hs : ∀ (i : Nat) (x : Sv) (μ' : Mu), k.items[i]? = some x → someD (g x (wipeZ δ vs)) fun δ1 => Ev (e δ1 μ') fun r μ2 => ∃ y, r = .ok (.d y) ∧ μ2 = μ' ∧ R i y)
    (he : ∀ acc : List D, acc.length = k.items.length → (∀ i y, acc[i]? = some y → R i y) → P (.ok (.c (μ ++ t1).length)) (μ ++ t1 ++ [.lst (acc.map Sv.d)])) : Ev (fLcW fi vs g fYes e δ μ) P := by
  have hL : (μ ++ t1).length = μ.length + t1.length := by simp
  have run : ∀ (ys : List Sv) (j : Nat) (acc : List D), (∀ i x, ys[i]? = some x → k.items[j + i]? = some x) → j + ys.length = k.items.length → acc.length = j → (∀ i y, acc[i]? = some y → R i y) →
      ∃ acc' : List D, acc'.length = k.items.length ∧ (∀ i y, acc'[i]? = some y → R i y) ∧ lcLW k.chk g fYes e (μ ++ t1).length (wipeZ δ vs) ys (μ ++ t1 ++ [.lst (acc.map Sv.d)]) = some (μ ++ t1 ++ [.lst (acc'.map Sv.d)]) := by
    intro ys
    induction ys with
    | nil =>
      intro j acc hd hj hl hR
      simp at hj
      exact ⟨acc, by omega, hR, by unfold lcLW; rw [if_pos (hk _)]⟩
    | cons y ys ih =>
      intro j acc hd hj hl hR
      simp only [List.length_cons] at hj
      have h := hs j y (μ ++ t1 ++ [.lst (acc.map Sv.d)]) (by simpa using hd 0 y rfl)
      cases hg : g y (wipeZ δ vs) with
      | none => rw [hg] at h; exact h.elim
      | some δ1 =>
        rw [hg] at h
        obtain ⟨r, μ2, e1, z, rfl, rfl, hz⟩ := h
        obtain ⟨acc', a1, a2, a3⟩ := ih (j + 1) (acc ++ [z]) (fun i x q => by
            have := hd (i + 1) x q
            rwa [show j + (i + 1) = j + 1 + i by omega] at this) (by omega) (by simp [hl]) (fun i w hw => by
            by_cases hi : i < acc.length
            · rw [List.getElem?_append_left hi] at hw; exact hR i w hw
            · rw [List.getElem?_append_right (by omega)] at hw
              have : i = acc.length := by
                have := (List.getElem?_eq_some_iff.1 hw).1
                simp at this; omega
              subst this
              simp at hw; subst hw; rw [hl]; exact hz)
        refine ⟨acc', a1, a2, ?_⟩
        have q1 : (μ ++ t1 ++ [Cell.lst (acc.map Sv.d)])[(μ ++ t1).length]? = some (.lst (acc.map Sv.d)) := by simp
        have q2 : (μ ++ t1 ++ [Cell.lst (acc.map Sv.d)]).set (μ ++ t1).length (.lst (acc.map Sv.d ++ [.d z])) = μ ++ t1 ++ [.lst ((acc ++ [z]).map Sv.d)] := by simp
        unfold lcLW; rw [if_pos (hk _)]
        simp only [hg, fYes_eq, e1, q1]
        rw [if_pos (by simp; omega), q2, a3]
  obtain ⟨acc, a1, a2, a3⟩ := run k.items 0 [] (fun i x h => by simpa using h) (by simp) rfl (fun i y h => by simp at h)
  refine ⟨.ok (.c (μ ++ t1).length), μ ++ t1 ++ [.lst (acc.map Sv.d)], ?_, he acc a1 a2⟩
  show Rz.bind (fi δ μ) _ = _
  obtain ⟨r0, μ0, hi1, rfl, rfl⟩ := hi
  rw [hi1]; simp only [Rz.bind_ok]
  have : (μ ++ t1 ++ [Cell.lst []]) = μ ++ t1 ++ [.lst (([] : List D).map Sv.d)] := rfl
  rw [this, a3]
/-- [e for x in l], kept as a cell -/
theorem Ev_map1C {fi : Fz Wk} {s : Nat} {os ws : List D} (hi : Ev (fi δ μ) fun r μ' => r = .ok ⟨os.map Sv.d, fun _ => True⟩ ∧ μ' = μ) (hl : os.length = ws.length) (hn : os.length ≤ 16777216)
    (h : ∀ (i : Nat) (o v : D), os[i]? = some o → ws[i]? = some v → ∀ μ', Ev (e ((wipeZ δ [s]).set s (some (.d o))) μ') fun r μ2 => r = .ok (.d v) ∧ μ2 = μ') (p : P (.ok (.c μ.length)) (μ ++ [.lst (ws.map Sv.d)])) : Ev (fLcW fi [s] (gN s) fYes e δ μ) P := by
  refine Ev_mapKC ⟨os.map Sv.d, fun _ => True⟩ [] (by rw [List.append_nil]; exact hi) (fun t => trivial) (by simpa using hn) (fun i y => ws[i]? = some y) ?_ ?_
  · intro i x μ' hx
    simp only [List.getElem?_map] at hx
    cases ho : os[i]? with
    | none => rw [ho] at hx; cases hx
    | some o =>
      rw [ho] at hx; cases hx
      have hi := (List.getElem?_eq_some_iff.1 ho).1
      have hv := List.getElem?_eq_getElem (show i < ws.length by omega)
      simp only [gN_eq, someD_s]
      refine (h i o _ ho hv μ').imp ?_
      rintro _ _ ⟨rfl, rfl⟩
      exact ⟨_, rfl, rfl, hv⟩
  · intro acc h1 h2
    rw [list_eq (n := ws.length) (by simpa [hl] using h1) rfl h2]
    simpa using p
/-- [e for x in c], c a cell that stays -/
theorem Ev_map1S {fi : Fz Wk} {s n : Nat} {os ws : List D} (hi : Ev (fi δ μ) fun r μ' => r = .ok ⟨os.map Sv.d, fun ν => ν[n]? = some (.lst (os.map Sv.d))⟩ ∧ μ' = μ) (hc : μ[n]? = some (.lst (os.map Sv.d))) (hl : os.length = ws.length) (hn : os.length ≤ 16777216)
    (h : ∀ (i : Nat) (o v : D), os[i]? = some o → ws[i]? = some v → ∀ μ', Ev (e ((wipeZ δ [s]).set s (some (.d o))) μ') fun r μ2 => r = .ok (.d v) ∧ μ2 = μ') (p : P (.ok (.d (.lst ws))) μ) : Ev (fFrz (fLcW fi [s] (gN s) fYes e) δ μ) P := by
  refine Ev_mapK ⟨os.map Sv.d, fun ν => ν[n]? = some (.lst (os.map Sv.d))⟩ [] (by rw [List.append_nil]; exact hi) (fun t => ?_) (by simpa using hn) (fun i y => ws[i]? = some y) ?_ ?_
  · show (μ ++ [] ++ t)[n]? = _
    rw [List.append_nil, List.getElem?_append_left (List.getElem?_eq_some_iff.1 hc).1]; exact hc
  · intro i x μ' hx
    simp only [List.getElem?_map] at hx
    cases ho : os[i]? with
    | none => rw [ho] at hx; cases hx
    | some o =>
      rw [ho] at hx; cases hx
      have hi := (List.getElem?_eq_some_iff.1 ho).1
      have hv := List.getElem?_eq_getElem (show i < ws.length by omega)
      simp only [gN_eq, someD_s]
      refine (h i o _ ho hv μ').imp ?_
      rintro _ _ ⟨rfl, rfl⟩
      exact ⟨_, rfl, rfl, hv⟩
  · intro acc h1 h2
    rw [list_eq (n := ws.length) (by simpa [hl] using h1) rfl h2]; exact p
@[simp] theorem oIsN_c : oIsN (.c n) (.d .non) μ = okz (.bl false) μ := rfl
@[simp] theorem oNotN_c : oNotN (.c n) (.d .non) μ = okz (.bl true) μ := rfl
theorem bList_c {l : List D} (h : μ[n]? = some (.lst (l.map Sv.d))) : bList [.c n] μ = okz (.lst l) μ := by
  have : seqV μ (.c n) = some (l.map Sv.d) := by simp [seqV, lstV, h]
  simp [bList, this, toDs_map]
/-- a thing made at this state, handed on as it is -/
theorem Ev_frzmk1 {c : String} {fn : Fn} {ds : List D} {fr : Fz (List Sv)} {as : List Sv} (fs : List (String × D)) (hr : Ev (fr δ μ) fun r μ' => r = .ok as ∧ μ' = μ)
    (h : Ev (fn (.c μ.length :: (as ++ ds.map Sv.d)) (μ ++ [.ins c []])) fun r μ' => r = .ok (.d .non) ∧ μ' = μ ++ [.ins c (fs.map fun p => (p.1, Sv.d p.2))]) (p : P (.ok (.d (.ins c fs))) μ) : Ev (fFrz (fMk c fn ds fr) δ μ) P := by
  have hr' := of_Ev hr
  obtain ⟨r, μ', h1, rfl, rfl⟩ := h
  refine ⟨.ok (.d (.ins c fs)), μ, ?_, p⟩
  show Rz.bind (Rz.bind (fr δ μ) _) _ = _
  rw [hr']
  simp only [Rz.bind_ok, mkZ, h1]
  have q1 : (μ ++ [Cell.ins c (fs.map fun p => (p.1, Sv.d p.2))])[μ.length]? = some (.ins c (fs.map fun p => (p.1, Sv.d p.2))) := by simp
  have q2 : (μ ++ [Cell.ins c (fs.map fun p => (p.1, Sv.d p.2))]).set μ.length .fz = μ ++ [.fz] := by simp
  have q3 : ∀ gs : List (String × D), toFs (gs.map fun p => (p.1, Sv.d p.2)) = some gs := by
    intro gs
    induction gs with
    | nil => rfl
    | cons p r ih => simp only [List.map_cons, toFs, ih, Option.map_some]
  simp only [frzV, q1, q3, q2, gc_app]
@[simp] theorem isNon_dd {d : D} : oIsN (.d d) (.d .non) μ = okz (.bl (isNon (.d d))) μ := rfl
end
end Z
namespace Z
open PySem PySem.Spec PyProof.Rows L2
/-! ## cells by what stands at them -/
@[simp] theorem gc_same {μ t t' : Mu} (h : t'.length = t.length) : gcM (μ ++ t) (μ ++ t') = μ ++ t' := gc_len (by simp [h])
def cellc (o : Option Cell) (kl : List Sv → Prop) (kd : List (Key × Sv) → Prop) (ki : String → List (String × Sv) → Prop) (_ : Ph (kl, kd, ki) := phm _) : Prop := match o with
  | some (.lst xs) => kl xs
  | some (.dct kvs) => kd kvs
  | some (.ins c fs) => ki c fs
  | _ => False
section
variable {kl : List Sv → Prop} {kd : List (Key × Sv) → Prop} {ki : String → List (String × Sv) → Prop}
@[simp ↓, simp] theorem cellc_l (xs : List Sv) : cellc (some (.lst xs)) kl kd ki = kl xs := rfl
@[simp ↓, simp] theorem cellc_d (kvs : List (Key × Sv)) : cellc (some (.dct kvs)) kl kd ki = kd kvs := rfl
@[simp ↓, simp] theorem cellc_i (c : String) (fs : List (String × Sv)) : cellc (some (.ins c fs)) kl kd ki = ki c fs := rfl
end
abbrev noL : List Sv → Prop := fun _ => False
abbrev noD : List (Key × Sv) → Prop := fun _ => False
abbrev noI : String → List (String × Sv) → Prop := fun _ _ => False
def optk {α : Type} (o : Option α) (k : α → Prop) (_ : Ph k := phm k) : Prop := match o with
  | some x => k x
  | none => False
@[simp ↓, simp] theorem optk_s {α : Type} (x : α) (k : α → Prop) : optk (some x) k = k x := rfl
@[simp ↓, simp] theorem optk_n {α : Type} (k : α → Prop) : optk none k = False := rfl
section
variable {P : Except Exn Sv → Mu → Prop} {R : Fl → Dl → Mu → Prop} {δ : Dl} {μ : Mu} {n : Nat} {y : Sv} {i : Int}
@[simp] theorem Ev_mAppC : Ev (mApp (.c n) [y] μ) P = cellc μ[n]? (fun xs => xs.length < 16777216 ∧ P (.ok (.d .non)) (μ.set n (.lst (xs ++ [y])))) noD noI := by
  unfold mApp
  rcases h : μ[n]? with _ | (_ | _ | _ | _) <;> simp [cellc, h]
@[simp] theorem Ev_mPopC : Ev (mPop (.c n) [] μ) P = cellc μ[n]? (fun xs => optk xs[xs.length - 1]? fun y => P (.ok y) (μ.set n (.lst xs.dropLast))) noD noI := by
  unfold mPop
  rcases h : μ[n]? with _ | (xs | _ | _ | _) <;> simp [cellc, h]
  cases xs[xs.length - 1]? <;> simp
@[simp] theorem Ev_mPopIC : Ev (mPopI (.c n) [.d (.int i)] μ) P = cellc μ[n]? (fun xs => optk (ixN xs.length i) fun k => optk xs[k]? fun y => xs.length ≤ 16777216 ∧ P (.ok y) (μ.set n (.lst (xs.eraseIdx k)))) noD noI := by
  unfold mPopI
  rcases h : μ[n]? with _ | (xs | _ | _ | _) <;> simp [cellc, h]
  cases ixN xs.length i with
  | none => simp
  | some k => simp; cases xs[k]? <;> simp
@[simp] theorem Ev_mClearC : Ev (mClear (.c n) [] μ) P = cellc μ[n]? (fun xs => P (.ok (.d .non)) (μ.set n (.lst []))) noD noI := by
  unfold mClear
  rcases h : μ[n]? with _ | (_ | _ | _ | _) <;> simp [cellc, h]
theorem ev_opt {α : Type} {o : Option α} {f : α → Rz Sv} : Ev (match o with | some x => f x | none => none) P = optk o fun x => Ev (f x) P := by
  cases o <;> simp
@[simp] theorem Ev_oIxC (b : Sv) : Ev (oIx (.c n) b μ) P = cellc μ[n]? (fun xs => inc b fun i => optk (L2.atI xs i) fun x => P (.ok x) μ) (fun kvs => optk (keyOf b) fun k => optk (lookK kvs k) fun x => P (.ok x) μ) noI := by
  unfold oIx
  rcases h : μ[n]? with _ | (xs | kvs | _ | _) <;> simp [cellc, h]
  · match b with
    | .d (.int i) => simp; cases L2.atI xs i <;> simp
    | .d (.bl _) => simp [inc]
    | .d .non => simp [inc]
    | .d (.str _) => simp [inc]
    | .d (.lst _) => simp [inc]
    | .d (.tup _) => simp [inc]
    | .d (.ins _ _) => simp [inc]
    | .d (.exc _ _) => simp [inc]
    | .c _ => simp [inc]
  · cases keyOf b with
    | none => simp
    | some k => simp; cases lookK kvs k <;> simp
@[simp] theorem Es_setAtC (i v : Sv) : Es (setAt (.c n) i v δ μ) R = cellc μ[n]? (fun xs => inc i fun i => optk (ixN xs.length i) fun j => R .nx δ (μ.set n (.lst (xs.set j v)))) (fun kvs => optk (keyOf i) fun k => kvs.length < 16777216 ∧ R .nx δ (μ.set n (.dct (putS kvs k v)))) noI := by
  unfold setAt
  rcases h : μ[n]? with _ | (xs | kvs | _ | _) <;> simp [cellc, h]
  · match i with
    | .d (.int i) => simp; cases ixN xs.length i <;> simp
    | .d (.bl _) => simp [inc]
    | .d .non => simp [inc]
    | .d (.str _) => simp [inc]
    | .d (.lst _) => simp [inc]
    | .d (.tup _) => simp [inc]
    | .d (.ins _ _) => simp [inc]
    | .d (.exc _ _) => simp [inc]
    | .c _ => simp [inc]
  · cases keyOf i with
    | none => simp
    | some k => simp
@[simp] theorem Ev_bLenC : Ev (bLen [.c n] μ) P = cellc μ[n]? (fun xs => P (.ok (.d (.int xs.length))) μ) (fun kvs => P (.ok (.d (.int kvs.length))) μ) noI := by
  unfold bLen
  rcases h : μ[n]? with _ | (_ | _ | _ | _) <;> simp [cellc, h]
@[simp] theorem Ev_bListC : Ev (bList [.c n] μ) P = cellc μ[n]? (fun xs => dsc xs fun ds => P (.ok (.d (.lst ds))) μ) noD noI := by
  unfold bList seqV lstV
  rcases h : μ[n]? with _ | (xs | _ | _ | _) <;> simp [cellc, dsc, h]
  cases toDs xs <;> simp
@[simp] theorem Ev_bListCC : Ev (bListC [.c n] μ) P = cellc μ[n]? (fun xs => P (.ok (.c μ.length)) (μ ++ [.lst xs])) noD noI := by
  unfold bListC seqV lstV
  rcases h : μ[n]? with _ | (xs | _ | _ | _) <;> simp [cellc, h]
theorem setdO_c {k : Sv} : Ev (setdO (.c n) k y μ) P = cellc μ[n]? noL (fun kvs => optk (keyOf k) fun k => kvs.length < 16777216 ∧ match lookK kvs k with
    | some x => P (.ok x) μ
    | none => P (.ok y) (μ.set n (.dct (putS kvs k y)))) noI := by
  unfold setdO
  rcases h : μ[n]? with _ | (xs | kvs | _ | _) <;> simp [cellc, h]
  cases keyOf k with
  | none => simp
  | some k => simp; cases lookK kvs k <;> simp
@[simp] theorem Ev_getdOC {k : Sv} : Ev (getdO (.c n) k y μ) P = cellc μ[n]? noL (fun kvs => optk (keyOf k) fun k => P (.ok ((lookK kvs k).getD y)) μ) noI := by
  unfold getdO
  rcases h : μ[n]? with _ | (xs | kvs | _ | _) <;> simp [cellc, h]
  cases keyOf k <;> simp
@[simp] theorem Ev_fldOC {ct : Ct} {f : String} : Ev (fldO ct f (.c n) μ) P = cellc μ[n]? noL noD (fun c gs => hasF ct.ins c f = true ∧ Ev (lkC gs f μ) P) := by
  rcases h : μ[n]? with _ | (xs | kvs | ⟨c, gs⟩ | _)
  · have : fldO ct f (.c n) μ = none := by unfold fldO; simp [h]
    simp [this, cellc]
  · have : fldO ct f (.c n) μ = none := by unfold fldO; simp [h]
    simp [this]
  · have : fldO ct f (.c n) μ = none := by unfold fldO; simp [h]
    simp [this]
  · rw [fldO_c h]
    simp
  · have : fldO ct f (.c n) μ = none := by unfold fldO; simp [h]
    simp [this, cellc]
  · have : fldO ct f (.c n) μ = none := by unfold fldO; simp [h]
    simp [this, cellc]
@[simp] theorem Es_setFC {ct : Ct} {f : String} {v : Sv} : Es (setF ct f (.c n) v δ μ) R = cellc μ[n]? noL noD (fun c gs => (hasF ct.ins c f = true ∧ gs.length < 1000) ∧ R .nx δ (μ.set n (.ins c (putZ f v gs)))) := by
  rcases h : μ[n]? with _ | (xs | kvs | ⟨c, gs⟩ | _)
  · simp [setF, h, cellc]
  · simp [setF, h, cellc]
  · simp [setF, h, cellc]
  · rw [Es_setF h]; simp
  · simp [setF, h, cellc]
  · simp [setF, h, cellc]
def tyC (T : String) : Option Cell → Bool
  | some (.lst _) => T == "list"
  | some (.dct _) => T == "dict"
  | _ => false
@[simp] theorem tyC_l (T : String) (xs : List Sv) : tyC T (some (.lst xs)) = (T == "list") := rfl
@[simp] theorem tyC_d (T : String) (xs : List (Key × Sv)) : tyC T (some (.dct xs)) = (T == "dict") := rfl
@[simp] theorem tyS_c (T : String) : tyS T μ (.c n) = tyC T μ[n]? := by
  rcases h : μ[n]? with _ | (_ | _ | _ | _) <;> simp [tyS, tyC, h]
def tgC : Option Cell → Option Tg
  | some (.lst _) => some (.b "list")
  | some (.dct _) => some (.b "dict")
  | some (.ins c _) => some (.o c)
  | _ => none
@[simp] theorem tgC_l (xs : List Sv) : tgC (some (.lst xs)) = some (.b "list") := rfl
@[simp] theorem tgC_d (xs : List (Key × Sv)) : tgC (some (.dct xs)) = some (.b "dict") := rfl
@[simp] theorem tgC_i (c : String) (fs : List (String × Sv)) : tgC (some (.ins c fs)) = some (.o c) := rfl
@[simp] theorem tgOf_cc : tgOf μ (.c n) = tgC μ[n]? := by
  rcases h : μ[n]? with _ | (_ | _ | _ | _) <;> simp [tgOf, tgC, h]
def dVC : Option Cell → Option D
  | some (.lst xs) => (toDs xs).map D.lst
  | _ => none
@[simp] theorem dVC_l (l : List D) : dVC (some (.lst (l.map Sv.d))) = some (.lst l) := by simp [dVC, toDs_map]
@[simp] theorem dVC_n : dVC (some (.lst [])) = some (.lst []) := rfl
@[simp] theorem dV_cc : dV μ (.c n) = dVC μ[n]? := by
  rcases h : μ[n]? with _ | (_ | _ | _ | _) <;> simp [dV, dVC, h]
def lstVC : Option Cell → Option (List Sv)
  | some (.lst xs) => some xs
  | _ => none
@[simp] theorem lstVC_l (l : List Sv) : lstVC (some (.lst l)) = some l := rfl
@[simp] theorem lstV_cc : lstV μ (.c n) = lstVC μ[n]? := by
  rcases h : μ[n]? with _ | (_ | _ | _ | _) <;> simp [lstV, lstVC, h]
def isDC : Option Cell → Bool
  | some (.dct _) => true
  | _ => false
@[simp] theorem isDC_d (xs : List (Key × Sv)) : isDC (some (.dct xs)) = true := rfl
@[simp] theorem isDct_cc : isDct (.c n) μ = isDC μ[n]? := by
  rcases h : μ[n]? with _ | (_ | _ | _ | _) <;> simp [isDct, isDC, h]
def pickC (m : String) (ms : List (String × Fn × List D)) : Option Cell → Option (Fn × List D)
  | some (.ins c gs) => if noF gs m = true then lkM ms c else none
  | _ => none
@[simp] theorem pickC_i (m : String) (ms : List (String × Fn × List D)) (c : String) (gs : List (String × Sv)) : pickC m ms (some (.ins c gs)) = if noF gs m = true then lkM ms c else none := rfl
@[simp] theorem pick_cc {m : String} {ms : List (String × Fn × List D)} : pick m ms μ (.c n) = pickC m ms μ[n]? := by
  rcases h : μ[n]? with _ | (_ | _ | _ | _)
  · simp [pick, noFld, h, pickC]
  · simp [pick, noFld, h, pickC]
  · simp [pick, noFld, h, pickC]
  · rw [pick_c h]; rfl
  · simp [pick, noFld, h, pickC]
  · simp [pick, noFld, h, pickC]
@[simp] theorem Ev_seqWOC {Pw : Except Exn Wk → Mu → Prop} : Ev (seqWO (.c n) μ) Pw = cellc μ[n]? (fun xs => Pw (.ok ⟨xs, fun μ => μ[n]? = some (.lst xs)⟩) μ) noD noI := by
  unfold seqWO lstC
  rcases h : μ[n]? with _ | (xs | _ | _ | _) <;> simp [cellc, h]
@[simp] theorem Ev_mCntBC {k : Bool} : Ev (mCntB (.c n) [.d (.bl k)] μ) P = cellc μ[n]? (fun xs => optk (toBls xs) fun bs => P (.ok (.d (.int (bs.count k : Nat)))) μ) noD noI := by
  unfold mCntB lstV
  rcases h : μ[n]? with _ | (xs | _ | _ | _) <;> simp [cellc, h]
  cases toBls xs <;> simp
@[simp] theorem toBls_nil : toBls [] = some [] := rfl
@[simp] theorem toBls_cons {b : Bool} {r : List Sv} : toBls (.d (.bl b) :: r) = (toBls r).map fun t => b :: t := rfl
@[simp] theorem Ev_oAddCC {a b : Sv} : Ev (oAddC a b μ) P = optk (lstV μ a) fun xs => optk (lstV μ b) fun ys => xs.length + ys.length ≤ 16777216 ∧ P (.ok (.c μ.length)) (μ ++ [.lst (xs ++ ys)]) := by
  unfold oAddC
  cases lstV μ a with
  | none => simp
  | some xs => cases lstV μ b <;> simp
/-- == where a cell is -/
@[simp] theorem Ev_eqCl (b : Sv) : Ev (oEq (.c n) b μ) P = optk (dVC μ[n]?) fun x => optk (dV μ b) fun y => eqc (eqD x y) fun r => P (.ok (.d (.bl r))) μ := by
  unfold oEq
  rw [dV_cc]
  cases dVC μ[n]? with
  | none => simp
  | some x => cases dV μ b with
    | none => simp
    | some y => simp; cases eqD x y <;> simp [eqc]
@[simp] theorem Ev_neCl (b : Sv) : Ev (oNe (.c n) b μ) P = optk (dVC μ[n]?) fun x => optk (dV μ b) fun y => eqc (eqD x y) fun r => P (.ok (.d (.bl (!r)))) μ := by
  unfold oNe
  rw [dV_cc]
  cases dVC μ[n]? with
  | none => simp
  | some x => cases dV μ b with
    | none => simp
    | some y => simp; cases eqD x y <;> simp [eqc]
@[simp] theorem Ev_eqCr (a : D) : Ev (oEq (.d a) (.c n) μ) P = optk (dVC μ[n]?) fun y => eqc (eqD a y) fun r => P (.ok (.d (.bl r))) μ := by
  unfold oEq
  rw [dV_cc, dV_d]
  cases dVC μ[n]? with
  | none => simp
  | some y => simp; cases eqD a y <;> simp [eqc]
@[simp] theorem Ev_neCr (a : D) : Ev (oNe (.d a) (.c n) μ) P = optk (dVC μ[n]?) fun y => eqc (eqD a y) fun r => P (.ok (.d (.bl (!r)))) μ := by
  unfold oNe
  rw [dV_cc, dV_d]
  cases dVC μ[n]? with
  | none => simp
  | some y => simp; cases eqD a y <;> simp [eqc]
end
end Z
/-! ## repr of trees, where no other repr is under way -/
namespace Z
open PySem PySem.Spec PyProof.Rows L2
/-- a promise of a def that is called from where no repr is under way -/
structure FnOkG (P : Program) (w : World) (K : PySem.W.Frag) (mg : Str → Option Value) (base : Heap) (CX : CXT) (k : Nat) (f : Addr) (fd : FuncData) (ps : List Str) (sp : Sp) : Prop where
  len : ∀ vs H Q E, sp vs H Q E → vs.length = ps.length
  run : ∀ (A : Around) (outer : List Env) (s : Shared) (H : Hp) (args : Args) (us : List Value) (vs : List V) (Q : VK) (E : XK), A.guards = some [] → Room k A → Env0 P w K mg base A outer s H → BindsTo s fd args (ps.zip us) → Vals vs us → sp vs H Q E →
    codeAny (model P w) A (.call (.ref f) args) (CR CX outer P w H s Q E) s
theorem fnok_LG {P : Program} {w : World} {G : Gx} {mg : Str → Option Value} {base : Heap} {CX : CXT} {k : Nat} {f : Addr} {fd : FuncData} {ps : List Str} {fn : Fn} (h : FnOkG P w G.K mg base CX k f fd ps (spF G fn)) : FnOkG P w G.K mg base CX k f fd ps (spL G.K fn) where
  len := fun vs H Q E q => h.len vs H Q E (q G rfl)
  run := fun A outer s H args us vs Q E hg hr e b r q => h.run A outer s H args us vs Q E hg hr e b r (q G rfl)
section
variable {P : Program} {w : World} {mg : Str → Option Value} {base : Heap} {G : Gx}
/-- as ok_def, with word of the reprs under way -/
theorem ok_defG {x qual : Str} {st : Stmt} {f : Addr} {fd : FuncData} {N ps : List Str} {k : Nat} {S : Sz} {sc : Scope} (hS : defScope st = sc) (Fu : Fun G.K x qual st f fd) (Sc : FnScope N ps sc)
    (body : ∀ (cdv : Value) (A : Around) (outer : List Env) (s : Shared) (H : Hp) (E : XK), A.guards = some [] → Room k (A.deeper (envOfC qual sc s.heap.objs.size f cdv)) →
      PSs (cxOf (L2.CX P w) P w G.K mg base N qual sc f cdv A outer s H E) (defBody st) (zS G (fun c d _ H => E c d H) S)) :
    FnOkG P w G.K mg base (L2.CX P w) (k + 1) f fd ps (spF G (runB ps.length N.length S)) := by
  subst hS
  -- the promise for one A is the promise of a def whose room is that of this A alone
  have len : ∀ vs H Q E, spF G (runB ps.length N.length S) vs H Q E → vs.length = ps.length := fun vs H Q E h => by
    obtain ⟨F, ρ, μ, svs, r, wf, rs, e, p⟩ := h
    unfold runB at e
    split at e
    · rename_i q; rw [rs.len]; exact q
    · cases e
  refine ⟨len, fun A outer s H args us vs Q E hg hr e0 hb r hsp => ?_⟩
  obtain ⟨oc, od, kV, doc, pm, an, cdv, ct, osl, rfl, lk, hcd⟩ := Fu.ex
  have hl := len _ _ _ _ hsp
  have KX : G.K.In s.heap := e0.mod.kin.keeps fun b o e => (e0.bs b o e).1
  have lim : s.heap.NoLimit := e0.mod.nolimit.keeps fun b o e => (e0.bs b o e).1
  refine codeAny_call_function hr.depth (KX _ _ lk) rfl Sc.co Sc.gen rfl (PySem.W.codeRec_of KX hcd) (hb _ _ _ _ ?_)
  refine wpAny_newFunctionEnv_cells Sc.kind (fun y hy => ?_) fun env he s1 x => ?_
  · rcases Sc.par y.1 (List.of_mem_zip hy).1 with q | q
    · exact .inl q
    · exact .inr ⟨q, PySem.W.cellsFrom_some _ _ _ (.inl q)⟩
  · subst he
    refine ⟨lim.keeps x.toInCall.keep, codeAny_func ?_⟩
    have I := inv_start (CX := L2.CX P w) (E := E) Sc hr.hd e0 hl r x
    have ht := body cdv A outer s H E hg (hr.deeper _)
    have hq : (zS G (fun c d _ H => E c d H) S) { nx := fun _ H' => Q .non H', rt := Q } (start N vs) H := by
      obtain ⟨F, ρ, μ, svs, r, wf, rs, e, p⟩ := hsp
      unfold runB at e
      split at e
      case isFalse => cases e
      have sl := Sl.start (N.length - svs.length) rs
      cases h : S (svs.map some ++ List.replicate (N.length - svs.length) none) μ with
      | none => rw [h] at e; cases e
      | some q =>
        obtain ⟨fl, δ1, μ1⟩ := q
        rw [h] at e
        refine ⟨F, ρ, _, μ, _, wf, (by unfold L2.start; rw [rs.len]; exact sl), h, ?_⟩
        cases fl with
        | nx =>
          cases e
          intro σ' F' ρ' H' g w' s'
          obtain ⟨ρ2, _, g2, w2⟩ := wf.gc g w'
          exact p .non F' ρ2 H' g2 w2 (.d .non)
        | bk => cases e
        | ct => cases e
        | rt v =>
          cases v with
          | d x =>
            cases e
            intro a F' ρ' H' g w' s'
            obtain ⟨ρ2, _, g2, w2⟩ := wf.gc g w'
            cases s' with
            | d s' => exact p a F' ρ2 H' g2 w2 (.d s')
          | c m => cases e; exact fun a F' ρ' H' g w' s' => p a F' ρ' H' g w' s'
        | ex x =>
          cases e
          intro c d σ' F' ρ' H' g w' s' xr
          obtain ⟨ρ2, _, g2, w2⟩ := wf.gc g w'
          exact p c d F' ρ2 H' g2 w2 xr
    refine wpAny_mono (ht.run [] s1 (start N vs) H _ I hq) (fun fl s' hs => ?_) fun e s' hs => hs
    cases fl with
    | ret u => obtain ⟨v, σ', H', J, rv, q⟩ := hs; exact ⟨v, H', J.os, J.bare, J.base, J.hok, rv, q⟩
    | next => obtain ⟨σ', H', J, q⟩ := hs; exact ⟨.non, H', J.os, J.bare, J.base, J.hok, rfl, q⟩
    | brk => obtain ⟨_, _, _, q⟩ := hs; exact q.elim
    | cont => obtain ⟨_, _, _, q⟩ := hs; exact q.elim
/-- the promise of all such defs is one of these -/
theorem FnOkG.of {P : Program} {w : World} {K : PySem.W.Frag} {mg : Str → Option Value} {base : Heap} {CX : CXT} {k : Nat} {f : Addr} {fd : FuncData} {ps : List Str} {sp : Sp} (h : FnOk P w K mg base CX k f fd ps sp) : FnOkG P w K mg base CX k f fd ps sp :=
  ⟨h.len, fun A outer s H args us vs Q E _ => h.run A outer s H args us vs Q E⟩
end
end Z

namespace Z
open PySem PySem.Spec PyProof.Rows L2
/-- the law's call, at the caller that every claim has -/
theorem law_callG {P : Program} {w : World} {K : PySem.W.Frag} {mg mb : Str → Option Value} {CX : CXT} {k : Nat} {fa a : Addr} {fd : FuncData} {x : Str} {sp : Sp} {s₁ : Shared} {vs : List Value} {ns : List Int}
    (KX : K.In s₁.heap) (hns : s₁.heap.Ns mainGlobals mg) (hb : s₁.heap.Ns builtinsNs mb) (hbb : ∀ x : Str, x ≠ "__name__" → mb x = bootBuiltins x) (hlim : s₁.heap.NoLimit) (hg : s₁.gens = #[])
    (ha : s₁.heap.get? a = some { cls := .type "list", data := .seq vs.toArray }) (hi : IntsAre vs ns) (hl : ns.length ≤ sizeLine) (hr : Room k callerA)
    (F : ∀ base : Heap, K.In base → base.Ns mainGlobals mg → FnOkG P w K mg base CX k fa fd [x] sp) (hbind : ∀ (s : Shared) (u : Value), BindsTo s fd ⟨[u], []⟩ [(x, u)])
    (hsp : ∀ H : Hp, Only H → SqL K H a (ns.map V.int) → sp [.ref a] H (fun v _ => v = .bl true) fun _ _ _ => False)
    (hCX : ∀ H e s', CX [] H s₁ (fun _ _ _ => False) e s' → False) :
    codeAny (model P w) callerA (.call (.ref fa) ⟨[.ref a], []⟩) (fun r s' => r = .ok (.ret (.bool true)) ∧ OldK s₁.heap s'.heap ∧ s'.os = s₁.os ∧ AllBare s'.gens) s₁ := by
  have rv := vals_ints hi
  have lenV := hi.length
  obtain ⟨H, hO, hS, hok, hA, hK⟩ : ∃ H : Hp, Only H ∧ SqL K H a (ns.map V.int) ∧ HOk P w H s₁.heap ∧ (∀ b, H b ≠ none → b = a) ∧ (H a ≠ none → K.lookup a = none) := by
    by_cases hk : K.lookup a = none
    · refine ⟨fun b => if b = a then some (.frz { cls := .type "list", data := .seq vs.toArray } (.lst (ns.map V.int))) else none, fun b => ?_, .inl (.inr ⟨_, if_pos rfl⟩), fun b u z => ?_, fun b z => ?_, fun _ => hk⟩
      · by_cases q : b = a
        · exact .inr ⟨_, _, if_pos q⟩
        · exact .inl (if_neg q)
      · by_cases q : b = a
        · cases (if_pos q).symm.trans z
          subst q
          exact ⟨ha, by rw [List.length_map]; exact hl, vs, _, rv, ha⟩
        · cases (if_neg q).symm.trans z
      · by_cases q : b = a
        · exact q
        · exact absurd (if_neg q) z
    · obtain ⟨o, hk⟩ := Option.ne_none_iff_exists'.1 hk
      have e := KX a o hk
      rw [ha] at e; cases e
      exact ⟨fun _ => none, fun _ => .inl rfl, .inr ⟨_, vs.toArray, _, hk, rfl, rfl, rfl, by rw [List.size_toArray, lenV]; exact hl, by simpa using rv⟩, fun b u z => (nomatch z), fun b z => absurd rfl z, fun z => absurd rfl z⟩
  have keep : ∀ {b : Addr} {m : Str → Option Value}, s₁.heap.Ns b m → (hidT s₁.heap H).Ns b m := fun {b m} ⟨o, es, ep, e, d, r⟩ => by
    refine ⟨o, es, ep, hidT_get e ?_, d, r⟩
    apply Classical.byContradiction
    intro q
    obtain rfl := hA b q
    rw [ha] at e; cases e; cases d
  have hKb : K.In (hidT s₁.heap H) := fun b o e => hidT_get (KX b o e) (by
    apply Classical.byContradiction
    intro q
    obtain rfl := hA b q
    rw [hK q] at e; cases e)
  have hM : Mod K mg (hidT s₁.heap H) := ⟨hKb, keep hns, ⟨mb, keep hb, hbb⟩, let ⟨mc, h1, h2⟩ := hlim; ⟨mc, keep h1, h2⟩⟩
  have e0 : Env0 P w K mg (hidT s₁.heap H) callerA [] s₁ H := ⟨rfl, hM, fun b o e => of_hidT e, Nat.le_of_eq (hidT_size _ _), trivial, fun b hb => (nomatch hb), hok, .of_eq hg⟩
  refine codeAny_mono ((F _ hKb (keep hns)).run callerA [] s₁ H ⟨[.ref a], []⟩ [.ref a] [.ref a] _ _ rfl hr e0 (hbind s₁ (.ref a)) (.cons rfl .nil) (hsp H hO hS)) fun r s' h => ?_
  match r, h with
  | .error e, h => exact (hCX H e s' h).elim
  | .ok .next, h => exact False.elim h
  | .ok .brk, h => exact False.elim h
  | .ok .cont, h => exact False.elim h
  | .ok (.ret u), ⟨v, H', os, bare, un, hok', r', q⟩ =>
    obtain rfl : v = .bl true := q
    obtain rfl : u = Value.bool true := r'
    refine ⟨rfl, OldK.of_keep fun b o e => ?_, os, bare⟩
    rcases hO b with z | ⟨ob, xs, z⟩
    · exact un.keep b o e z (fun z => nomatch z) (by simp)
    · obtain ⟨e1, _⟩ := hok b _ z
      obtain ⟨e2, _⟩ := hok' b _ (un.frzs b ob _ z)
      rw [e] at e1; cases e1
      exact e2
theorem walk_ofG {l : PySem.W.OpenLaw} {n k : Nat} {q : Program} {loose : List Str} {XP : (Str → Option Value) → Heap → Prop} {YP : World → Heap → Prop} {d : DefRec} {K : Params → PySem.W.Frag} {CX : World → CXT} {sp : World → Sp} {x : Str}
    (hn : l.most = some n) (hn2 : n ≤ sizeLine) (hdf : d.params.defaults = []) (hr : Room k callerA) (hY : ∀ (w : World) (h : Heap), YP w h → (K w.params).In h)
    (F : ∀ (w : World) (mg : Str → Option Value) (fa : Addr) (h : Heap), (K w.params).In h → h.Ns mainGlobals mg → mg d.name = some (.ref fa) →
      ∃ fd : FuncData, (∀ (s : Shared) (u : Value), BindsTo s fd ⟨[u], []⟩ [(x, u)]) ∧ ∀ base : Heap, (K w.params).In base → base.Ns mainGlobals mg → FnOkG l.prog w (K w.params) mg base (CX w) k fa fd [x] (sp w))
    (hsp : ∀ (w : World) (H : Hp) (a : Addr) (ns : List Int), ns.length ≤ n → Only H → SqL (K w.params) H a (ns.map V.int) → sp w [.ref a] H (fun v _ => v = .bl true) fun _ _ _ => False)
    (hCX : ∀ (w : World) (H : Hp) (s : Shared) (e : Value) (s' : Shared), CX w [] H s (fun _ _ _ => False) e s' → False) :
    PySem.W.WalkO q loose XP YP l.row.toRowW d [] (fun f vs => PySem.call f vs) := by
  refine Att.attach_call hn hdf fun w s₀ s₁ mg mb fa o pm cd doc a vs ns G Y ho hd hcd hmg hobj hints hlen hg => ?_
  obtain ⟨fd, hb, hF⟩ := F w mg fa _ (hY w _ Y) G.T.g hmg
  exact law_callG (hY w _ Y) G.T.g G.T.b G.T.builtins G.T.nolimit hg hobj hints (Nat.le_trans hlen hn2) hr hF hb (fun H hO hS => hsp w H a ns hlen hO hS) fun H e s' => hCX w H s₁ e s'
end Z
namespace Z
open PySem PySem.Spec PyProof.Rows L2
section
variable {X : Cx} {G : Gx} {W : WX}
def rRepr (K : PySem.W.Frag) : List V → Hp → VK → Prop := fun xs H Q => ∃ x d, xs = [x] ∧ Dp K H x d ∧ d.showable = true ∧ d.hasDict = false ∧ isDisplay d = true ∧ d.depth ≤ 60 ∧ d.shown.length ≤ sizeLine ∧ Q (.str d.shown) H
theorem cr_repr (hg : X.A.guards = some []) (hu : X.A.units + 64 < cLine) : CallR X (.builtin "repr") (rRepr X.K) := by
  intro pins s σ H xs us Q I r h
  obtain ⟨x, d, rfl, hd, h1, h2, h3, h4, h5, q⟩ := h
  cases r with
  | cons r t =>
    cases t
    obtain ⟨as, r1⟩ := Dp.reads I d x _ hd r
    obtain ⟨a, rfl⟩ := isRef_of_reads r1 h3
    exact repr_of_reads' r1 h1 (PyData.noDict_hsm h2) hg (by omega) (fun _ _ e => e) (fun h' u tk hk => ⟨.str d.shown, H, I.kept hk, ⟨_, rfl⟩, q⟩) h5
def bRepr : Opn := fun as μ => match as with
  | [a] => match (dV μ a).bind D.py with
    | some p => if p.showable = true ∧ p.hasDict = false ∧ isDisplay p = true ∧ p.depth ≤ 60 ∧ p.shown.length ≤ 16777216 then okz (.str p.shown.cps.toList) μ else none
    | none => none
  | _ => none
theorem so_repr (hK : G.K = X.K) : SOpn G W (rRepr X.K) bRepr := by
  intro F ρ μ H σ vs as rr Q w r h p
  unfold bRepr at h
  split at h
  · split at h
    · rename_i q hq
      split at h
      · rename_i hc
        cases h
        obtain ⟨d, hd, hp⟩ := Option.bind_eq_some_iff.1 hq
        cases r with
        | cons r t =>
          cases t
          refine ⟨_, q, rfl, by rw [← hK]; exact py_dp (dV_at w r hd) hp, hc.1, hc.2.1, hc.2.2.1, hc.2.2.2.1, by rw [szl]; exact hc.2.2.2.2, ?_⟩
          exact p.ok w (.d (.str q.shown))
      · cases h
    · cases h
  · cases h
end
end Z
namespace Z
open PySem PySem.Spec PyProof.Rows L2
/-! ## list[::-1], a new cell -/
def revC (a : Sv) (μ : Mu) : Rz Sv := match lstV μ a with
  | some xs => some (.ok (.c μ.length), μ ++ [.lst xs.reverse])
  | none => none
def fRevC (fa : Fz Sv) : Fz Sv := fun δ μ => (fa δ μ).bind revC
section
variable {G : Gx} {X : Cx} {W : WX} {fa : Fz Sv} {e : Expr} {pos p2 : Pos}
theorem z_revC (hK : G.K = X.K) {k : Nat} {p1 p3 : Pos} (ha : PE X e (zE G W fa)) : PE X (.Subscript e (.Slice none none (some (.UnaryOp .USub (.Constant (.int 1) k p1) p2)) p3) pos) (zE G W (fRevC fa)) :=
  peImp (pe_revL ha) fun σ H Q q => by
  obtain ⟨F, ρ, δ, μ, rr, w, s, e, p⟩ := q
  unfold fRevC at e
  cases h : fa δ μ with
  | none => rw [h] at e; cases e
  | some q =>
    obtain ⟨v, μ1⟩ := q
    rw [h] at e
    cases v with
    | error x => cases e; exact ⟨F, ρ, δ, μ, _, w, s, h, p⟩
    | ok v =>
      rw [Rz.bind_ok] at e
      unfold revC at e
      split at e
      · rename_i xs hx
        cases e
        refine ⟨F, ρ, δ, μ, _, w, s, h, fun x F1 ρ1 H1 g1 w1 r1 => ?_⟩
        obtain ⟨ax, vs, rfl, h2, h3⟩ := lstV_at w1 r1 hx
        refine ⟨_, _, rfl, by rw [← hK]; exact h2, fun q hq => ?_⟩
        have g0 : Gr F1 F1 ρ1 (ρ1 ++ [q]) := ⟨Ex.refl F1, [q], rfl⟩
        obtain ⟨w2, g2⟩ := w1.newC (p := q) (o := .lst vs.reverse) (c := .lst xs.reverse) hq ⟨w1.ex.none hq, vs.reverse, upd_same, (h3.mono g0).rev⟩
        have hn : (ρ1 ++ [q])[μ1.length]? = some q := by rw [← w1.len]; simp
        exact p _ _ _ _ (g1.trans g2) w2 (.c hn)
      · cases e
end
@[simp] theorem Ev_RevC {δ : Dl} {μ : Mu} {P : Except Exn Sv → Mu → Prop} (fa : Fz Sv) : Ev (fRevC fa δ μ) P = Ev (fa δ μ) (fun e μ1 => okc e (fun a => Ev (revC a μ1) P) (fun x => P (.error x) μ1)) := by
  show Ev (Rz.bind _ _) _ = _
  rw [Ev_bind]
@[simp] theorem Ev_revCl {μ : Mu} {P : Except Exn Sv → Mu → Prop} (l : List D) : Ev (revC (.d (.lst l)) μ) P = P (.ok (.c μ.length)) (μ ++ [.lst (l.map Sv.d).reverse]) := by
  unfold revC; simp
@[simp] theorem Ev_revCc {μ : Mu} {n : Nat} {P : Except Exn Sv → Mu → Prop} : Ev (revC (.c n) μ) P = cellc μ[n]? (fun xs => P (.ok (.c μ.length)) (μ ++ [.lst xs.reverse])) noD noI := by
  unfold revC
  rw [lstV_cc]
  cases μ[n]? with
  | none => simp [cellc, lstVC]
  | some c => cases c <;> simp [cellc, noD, noI, lstVC]
end Z
namespace Z
open PySem PySem.Spec PyProof.Rows L2
/-! ## xs.extend(ys), both cells -/
def mExt : Opm := fun o as μ => match o, as with
  | .c n, [.c m] => match μ[n]?, μ[m]? with
    | some (.lst xs), some (.lst ys) => if xs.length + ys.length ≤ 16777216 then some (.ok (.d .non), μ.set n (.lst (xs ++ ys))) else none
    | _, _ => none
  | _, _ => none
theorem so_ext {G : Gx} {W : WX} : SOm G W rExtend mExt := by
  intro F ρ μ H σ x o vs as rr Q w rx r h p
  unfold mExt at h
  split at h
  · split at h
    · rename_i xs ys hx hy
      split at h
      · rename_i hl
        cases h
        cases rx with
        | c hr =>
          cases r with
          | cons r t =>
            cases t
            cases r with
            | c hm =>
              obtain ⟨h0, ws, h1, h2⟩ := w.cell _ _ _ hr hx
              obtain ⟨g0, us, g1, g2⟩ := w.cell _ _ _ hm hy
              refine ⟨_, _, _, _, rfl, rfl, h1, g1, by rw [h2.len, g2.len, szl]; exact hl, ?_⟩
              exact p.ok (w.setC hr h0 (show CellOk G F _ _ _ (.lst _) from ⟨h0, _, upd_same, h2.app g2⟩)) (.d .non)
      · cases h
    · cases h
  · cases h
@[simp] theorem Ev_mExtC {μ : Mu} {n m : Nat} {P : Except Exn Sv → Mu → Prop} : Ev (mExt (.c n) [.c m] μ) P = cellc μ[n]? (fun xs => cellc μ[m]? (fun ys => xs.length + ys.length ≤ 16777216 ∧ P (.ok (.d .non)) (μ.set n (.lst (xs ++ ys)))) noD noI) noD noI := by
  unfold mExt
  rcases h : μ[n]? with _ | (xs | _ | _ | _) <;> rcases h2 : μ[m]? with _ | (ys | _ | _ | _) <;> simp [cellc, noD, noI, h, h2]
end Z
namespace Z
open PySem PySem.Spec PyProof.Rows L2
/-! ## k in d; dicts by tuples -/
/-- {}, its keys to be tuples -/
def fDctT : Fz Sv := fun _ μ => some (.ok (.c μ.length), μ ++ [.dtt []])
def keysOf : List Sv → Option (List Key)
  | [] => some []
  | x :: r => match keyOf x, keysOf r with
    | some k, some ks => some (k :: ks)
    | _, _ => none
/-- k in d, k not in d; d by ints and texts -/
def hasO (neg : Bool) (a b : Sv) (μ : Mu) : Rz Sv := match b with
  | .c n => match μ[n]? with
    | some (.dct kvs) => match keyOf a with
      | some k => okz (.bl (if neg then !(lookK kvs k).isSome else (lookK kvs k).isSome)) μ
      | none => none
    | _ => none
  | _ => none
def fHas (neg : Bool) (fa fb : Fz Sv) : Fz Sv := fOp2 (hasO neg) fa fb
def inK (k : List Key) (kss : List (List Key)) : Bool := kss.any fun j => decide (j = k)
theorem inK_iff {k : List Key} {kss : List (List Key)} : inK k kss = true ↔ k ∈ kss := by
  unfold inK
  rw [List.any_eq_true]
  exact ⟨fun ⟨j, h, e⟩ => by rw [← of_decide_eq_true e]; exact h, fun h => ⟨k, h, decide_eq_true rfl⟩⟩
/-- (a, b) in d, not in d -/
def hasTO (neg : Bool) (as : List Sv) (b : Sv) (μ : Mu) : Rz Sv := match b with
  | .c n => match μ[n]? with
    | some (.dtt kss) => match keysOf as with
      | some k => okz (.bl (if neg then !inK k kss else inK k kss)) μ
      | none => none
    | _ => none
  | _ => none
def fHasT (neg : Bool) (fr : Fz (List Sv)) (fb : Fz Sv) : Fz Sv := fun δ μ => (fr δ μ).bind fun as μ => if as.length ≤ 16777216 then (fb δ μ).bind fun b μ => hasTO neg as b μ else none
/-- d[(a, b)] = v -/
def setT (o : Sv) (as : List Sv) (δ : Dl) (μ : Mu) : Sr := match o with
  | .c n => match μ[n]? with
    | some (.dtt kss) => match keysOf as with
      | some k => if kss.length < 16777216 ∧ as.length ≤ 16777216 then some (.nx, δ, μ.set n (.dtt (if inK k kss = true then kss else kss ++ [k]))) else none
      | none => none
    | _ => none
  | _ => none
def sPutT (fo : Fz Sv) (fr : Fz (List Sv)) (fv : Fz Sv) : Sz := fun δ μ => eS (fv δ μ) δ fun _ μ => eS (fo δ μ) δ fun o μ => eS (fr δ μ) δ fun as μ => setT o as δ μ
section
variable {G : Gx} {X : Cx} {W : WX} {fa fb fo fv : Fz Sv} {fr : Fz (List Sv)} {a b o e : Expr} {es : List Expr} {pos pos' tpos : Pos}
theorem z_dctT : PE X (.Dict [] [] pos) (zE G W fDctT) := peImp pe_dnewT fun σ H Q q => by
  obtain ⟨F, ρ, δ, μ, rr, w, s, e, p⟩ := q
  cases e
  intro q hq
  obtain ⟨w2, g2⟩ := w.newC hq (o := .dT []) (c := .dtt []) ⟨w.ex.none hq, [], upd_same, rfl⟩
  exact p _ _ _ _ g2 w2 (.c (by rw [← w.len]; simp))
theorem keysOf_at {F : Hp} {ρ : List Addr} : ∀ {vs : List V} {xs : List Sv} {ks : List Key}, RsL G F ρ vs xs → keysOf xs = some ks → vs = ks.map kV
  | _, _, _, .nil, h => by cases h; rfl
  | _, x :: xs, ks, .cons r t, h => by
    unfold keysOf at h
    split at h
    · rename_i k ks' h1 h2
      cases h
      rw [keyOf_at r h1, keysOf_at t h2]; rfl
    · cases h
theorem lookK_isSome {F : Hp} {ρ : List Addr} {vs : List (Key × V)} {xs : List (Key × Sv)} {k : Key} (r : RsK G F ρ vs xs) : (valV vs k).isSome = (lookK xs k).isSome := by
  cases h : lookK xs k with
  | none => rw [lookK_none r h]; rfl
  | some y => obtain ⟨v, e, _⟩ := lookK_at r h; rw [e]; rfl
theorem valV_keys {k : List Key} (vs : List (List Key × V)) : (valV vs k).isSome = inK k (vs.map (·.1)) := by
  rw [← valV_any]
  unfold inK
  rw [List.any_map]; rfl
theorem putK_keys {k : List Key} {v : V} (vs : List (List Key × V)) : (putK vs k v).map (·.1) = if inK k (vs.map (·.1)) = true then vs.map (·.1) else vs.map (·.1) ++ [k] := by
  unfold putK
  have e : (vs.any fun kv => decide (kv.1 = k)) = inK k (vs.map (·.1)) := by rw [valV_any, valV_keys]
  rw [e]
  split
  · rw [List.map_map]
    apply List.map_congr_left
    intro kv _
    show (if kv.1 = k then (kv.1, v) else kv).1 = kv.1
    split <;> rfl
  · rw [List.map_append]; rfl
theorem hasO_at {neg : Bool} {F : Hp} {ρ : List Addr} {μ : Mu} {H : Hp} {x y : V} {sa sb : Sv} {rr : Except Exn Sv × Mu} (w : Wf G F ρ μ H) (rx : Rs G F ρ x sa) (ry : Rs G F ρ y sb) (h : hasO neg sa sb μ = some rr) :
    ∃ p ob, y = .ref p ∧ DGet H p x ob ∧ rr = (.ok (.d (.bl (if neg then !ob.isSome else ob.isSome))), μ) := by
  unfold hasO at h
  split at h
  · split at h
    · rename_i kvs hk
      split at h
      · rename_i k hkey
        cases h
        cases ry with
        | c hr =>
          obtain ⟨h0, ws, h1, h2⟩ := w.cell _ _ _ hr hk
          refine ⟨_, _, rfl, by rw [keyOf_at rx hkey]; exact DGet.k h1, ?_⟩
          rw [lookK_isSome h2]
      · cases h
    · cases h
  · cases h
theorem z_in (hu : X.A.units + 1 < cLine) (ha : PE X a (zE G W fa)) (hb : PE X b (zE G W fb)) (hm : behindInMarks .In b = false) : PE X (.Compare a [.In] [b] pos) (zE G W (fHas false fa fb)) := by
  refine peImp (pe_cmp (pc_din hu ha hb) hm) fun σ H Q q => ?_
  obtain ⟨F, ρ, δ, μ, rr, w, s, e, p⟩ := q
  refine zstep w s e p fun sa μ1 x F1 ρ1 H1 g1 w1 s1 rx e1 p1 => ?_
  refine zstep w1 s1 e1 p1 fun sb μ2 y F2 ρ2 H2 g2 w2 s2 ry e2 p2 => ?_
  obtain ⟨q, ob, rfl, hd, rfl⟩ := hasO_at w2 (rx.mono g2) ry e2
  exact ⟨_, _, rfl, hd, p2.ok w2 (.d (.bl _))⟩
theorem z_notIn (hu : X.A.units + 1 < cLine) (ha : PE X a (zE G W fa)) (hb : PE X b (zE G W fb)) (hm : behindInMarks .NotIn b = false) : PE X (.Compare a [.NotIn] [b] pos) (zE G W (fHas true fa fb)) := by
  refine peImp (pe_cmp (pc_dnotin hu ha hb) hm) fun σ H Q q => ?_
  obtain ⟨F, ρ, δ, μ, rr, w, s, e, p⟩ := q
  refine zstep w s e p fun sa μ1 x F1 ρ1 H1 g1 w1 s1 rx e1 p1 => ?_
  refine zstep w1 s1 e1 p1 fun sb μ2 y F2 ρ2 H2 g2 w2 s2 ry e2 p2 => ?_
  obtain ⟨q, ob, rfl, hd, rfl⟩ := hasO_at w2 (rx.mono g2) ry e2
  exact ⟨_, _, rfl, hd, p2.ok w2 (.d (.bl _))⟩
theorem hasTO_at {neg : Bool} {F : Hp} {ρ : List Addr} {μ : Mu} {H : Hp} {q : Addr} {xs : List V} {y : V} {as : List Sv} {sb : Sv} {rr : Except Exn Sv × Mu} (w : Wf G F ρ μ H) (hq : F q = some (.tup xs)) (rx : RsL G F ρ xs as) (ry : Rs G F ρ y sb) (h : hasTO neg as sb μ = some rr) :
    ∃ p ob, y = .ref p ∧ DGet H p (.ref q) ob ∧ rr = (.ok (.d (.bl (if neg then !ob.isSome else ob.isSome))), μ) := by
  unfold hasTO at h
  split at h
  · split at h
    · rename_i kss hk
      split at h
      · rename_i k hkey
        cases h
        cases ry with
        | c hr =>
          obtain ⟨h0, ws, h1, h2⟩ := w.cell _ _ _ hr hk
          have e := keysOf_at rx hkey
          subst e
          refine ⟨_, _, rfl, DGet.t h1 (w.ex _ _ hq), ?_⟩
          rw [valV_keys, h2]
      · cases h
    · cases h
  · cases h
theorem z_hasT {neg : Bool} {σ : L2.St} {H : Hp} {Q : VK} (q : zE G W (fHasT neg fr fb) σ H Q) : tTup (zA G W fr) σ H fun x H1 => zE G W fb σ H1 fun y H2 => ∃ p ob, y = .ref p ∧ DGet H2 p x ob ∧ Q (.bl (if neg then !ob.isSome else ob.isSome)) H2 := by
  obtain ⟨F, ρ, δ, μ, rr, w, s, e, p⟩ := q
  refine zstep w s e p fun as μ1 xs F1 ρ1 H1 g1 w1 s1 rx e1 p1 => ?_
  split at e1
  · rename_i hl
    refine ⟨by rw [rx.len, szl]; exact hl, fun q hq => ?_⟩
    obtain ⟨w2, g2⟩ := w1.newD hq (.tup xs)
    refine zstep w2 (s1.mono g2) e1 (p1.mono g2) fun sb μ2 y F2 ρ2 H2 g3 w3 s3 ry e2 p2 => ?_
    obtain ⟨q2, ob, rfl, hd, rfl⟩ := hasTO_at w3 (g3.f _ _ upd_same) ((rx.mono g2).mono g3) ry e2
    exact ⟨_, _, rfl, hd, p2.ok w3 (.d (.bl _))⟩
  · cases e1
theorem z_inT (hu : X.A.units + 1 < cLine) (ha : PA X es (zA G W fr)) (hb : PE X b (zE G W fb)) (hm : behindInMarks .In b = false) {k} : PE X (.Compare (.Tuple es k tpos) [.In] [b] pos) (zE G W (fHasT false fr fb)) :=
  peImp (pe_cmp (pc_din hu (pe_tup ha) hb) hm) fun σ H Q q => z_hasT q
theorem z_notInT (hu : X.A.units + 1 < cLine) (ha : PA X es (zA G W fr)) (hb : PE X b (zE G W fb)) (hm : behindInMarks .NotIn b = false) {k} : PE X (.Compare (.Tuple es k tpos) [.NotIn] [b] pos) (zE G W (fHasT true fr fb)) :=
  peImp (pe_cmp (pc_dnotin hu (pe_tup ha) hb) hm) fun σ H Q q => z_hasT q
theorem z_hasR {neg : Bool} {σ : L2.St} {H : Hp} {Q : VK} (q : zE G W (fHas neg fa fb) σ H Q) : zE G W fa σ H fun x H1 => zE G W fb σ H1 fun y H2 => ∃ p ob, y = .ref p ∧ DGet H2 p x ob ∧ Q (.bl (if neg then !ob.isSome else ob.isSome)) H2 := by
  obtain ⟨F, ρ, δ, μ, rr, w, s, e, p⟩ := q
  refine zstep w s e p fun sa μ1 x F1 ρ1 H1 g1 w1 s1 rx e1 p1 => ?_
  refine zstep w1 s1 e1 p1 fun sb μ2 y F2 ρ2 H2 g2 w2 s2 ry e2 p2 => ?_
  obtain ⟨q, ob, rfl, hd, rfl⟩ := hasO_at w2 (rx.mono g2) ry e2
  exact ⟨_, _, rfl, hd, p2.ok w2 (.d (.bl _))⟩
theorem zt_in (hu : X.A.units + 1 < cLine) (ha : PE X a (zE G W fa)) (hb : PE X b (zE G W fb)) (hm : behindInMarks .In b = false) : PT X (.Compare a [.In] [b] pos) (zT G W (fT (fHas false fa fb))) :=
  ptImp (pt_cmp (pc_din hu ha hb) hm) fun _ _ _ q => zT_of (fun _ _ _ q => z_hasR q) q
theorem zt_notIn (hu : X.A.units + 1 < cLine) (ha : PE X a (zE G W fa)) (hb : PE X b (zE G W fb)) (hm : behindInMarks .NotIn b = false) : PT X (.Compare a [.NotIn] [b] pos) (zT G W (fT (fHas true fa fb))) :=
  ptImp (pt_cmp (pc_dnotin hu ha hb) hm) fun _ _ _ q => zT_of (fun _ _ _ q => z_hasR q) q
theorem zt_inT (hu : X.A.units + 1 < cLine) (ha : PA X es (zA G W fr)) (hb : PE X b (zE G W fb)) (hm : behindInMarks .In b = false) {k} : PT X (.Compare (.Tuple es k tpos) [.In] [b] pos) (zT G W (fT (fHasT false fr fb))) :=
  ptImp (pt_cmp (pc_din hu (pe_tup ha) hb) hm) fun _ _ _ q => zT_of (fun _ _ _ q => z_hasT q) q
theorem zt_notInT (hu : X.A.units + 1 < cLine) (ha : PA X es (zA G W fr)) (hb : PE X b (zE G W fb)) (hm : behindInMarks .NotIn b = false) {k} : PT X (.Compare (.Tuple es k tpos) [.NotIn] [b] pos) (zT G W (fT (fHasT true fr fb))) :=
  ptImp (pt_cmp (pc_dnotin hu (pe_tup ha) hb) hm) fun _ _ _ q => zT_of (fun _ _ _ q => z_hasT q) q
theorem zs_putT {k} (hu : X.A.units + 1 < cLine) (ho : PE X o (zE G W fo)) (hi : PA X es (zA G W fr)) (hv : PE X e (zE G W fv)) (hs : swapsWith e (some (.Subscript o (.Tuple es k tpos) pos')) pos.line X.env = pure false := by rfl) :
    PS X (.Assign [.Subscript o (.Tuple es k tpos) pos'] e pos) (zS G W (sPutT fo fr fv)) := psImp (ps_dput hu ho (pe_tup hi) hv hs) fun D σ H q => by
  obtain ⟨F, ρ, δ, μ, r, w, s, e, p⟩ := q
  refine zstepS w s e p fun sv μ1 v F1 ρ1 H1 g1 w1 s1 rv e1 p1 => ?_
  refine zstepS w1 s1 e1 p1 fun so μ2 ov F2 ρ2 H2 g2 w2 s2 ro e2 p2 => ?_
  refine zstepS w2 s2 e2 p2 fun as μ3 xs F3 ρ3 H3 g3 w3 s3 rx e3 p3 => ?_
  unfold setT at e3
  split at e3
  · split at e3
    · rename_i kss hk
      split at e3
      · rename_i key hkey
        split at e3
        · rename_i hl
          cases e3
          refine ⟨by rw [rx.len, szl]; exact hl.2, fun q hq => ?_⟩
          obtain ⟨w4, g4⟩ := w3.newD hq (.tup xs)
          have ro4 := (ro.mono g3).mono g4
          cases ro4 with
          | c hr =>
            obtain ⟨h0, ws, h1, h2⟩ := w4.cell _ _ _ hr hk
            have e := keysOf_at (rx.mono g4) hkey
            subst e
            refine ⟨_, _, rfl, DPut.t h1 (w4.ex _ _ upd_same) (by rw [szl, ← List.length_map (f := (·.1)), h2]; exact hl.1), ?_⟩
            refine (p3.mono g4).nx rfl (w4.setC hr h0 (show CellOk G _ ρ3 _ _ (.dtt _) from ⟨h0, _, upd_same, ?_⟩)) (s3.mono g4)
            rw [putK_keys, h2]
        · cases e3
      · cases e3
    · cases e3
  · cases e3
end
/-! ### in the calculus -/
section
variable {δ : Dl} {μ : Mu} {P : Except Exn Sv → Mu → Prop} {R : Fl → Dl → Mu → Prop}
@[simp] theorem fDctT_eq : fDctT δ μ = some (.ok (.c μ.length), μ ++ [.dtt []]) := rfl
def dttc (o : Option Cell) (k : List (List Key) → Prop) (_ : Ph k := phm k) : Prop := match o with
  | some (.dtt ks) => k ks
  | _ => False
@[simp ↓, simp] theorem dttc_s (ks : List (List Key)) (k : List (List Key) → Prop) : dttc (some (.dtt ks)) k = k ks := rfl
@[simp] theorem Ev_fHas (neg : Bool) (fa fb : Fz Sv) : Ev (fHas neg fa fb δ μ) P = Ev (fOp2 (hasO neg) fa fb δ μ) P := rfl
@[simp] theorem Ev_hasO (neg : Bool) (a : Sv) {n : Nat} : Ev (hasO neg a (.c n) μ) P = cellc μ[n]? noL (fun kvs => optk (keyOf a) fun k => P (.ok (.d (.bl (if neg then !(lookK kvs k).isSome else (lookK kvs k).isSome)))) μ) noI := by
  unfold hasO
  rcases h : μ[n]? with _ | (_ | kvs | _ | _ | _) <;> simp [cellc, noL, noI, h]
  cases keyOf a <;> simp
@[simp] theorem Ev_fHasT (neg : Bool) (fr : Fz (List Sv)) (fb : Fz Sv) : Ev (fHasT neg fr fb δ μ) P = Ev (fr δ μ) (fun e μ => okc e (fun as => as.length ≤ 16777216 ∧ Ev (fb δ μ) (fun e μ => okc e (fun b => Ev (hasTO neg as b μ) P) (fun x => P (.error x) μ))) (fun x => P (.error x) μ)) := by
  show Ev (Rz.bind _ _) _ = _
  rw [Ev_bind]; refine Ev_ext fun e μ => ?_; cases e <;> simp only [okc_ok, okc_err]
  split
  · rename_i hl
    rw [Ev_bind]; simp [hl]
  · rename_i hl
    simp [hl]
@[simp] theorem Ev_hasTO (neg : Bool) (as : List Sv) {n : Nat} : Ev (hasTO neg as (.c n) μ) P = dttc μ[n]? (fun kss => optk (keysOf as) fun k => P (.ok (.d (.bl (if neg then !inK k kss else inK k kss)))) μ) := by
  unfold hasTO
  rcases h : μ[n]? with _ | (_ | _ | _ | _ | _) <;> simp [dttc, h]
  cases keysOf as <;> simp
@[simp] theorem Es_putT (fo : Fz Sv) (fr : Fz (List Sv)) (fv : Fz Sv) : Es (sPutT fo fr fv δ μ) R = Ev (fv δ μ) (fun e μ => okc e (fun v => Ev (fo δ μ) (fun e μ => okc e (fun o => Ev (fr δ μ) (fun e μ => okc e (fun as => Es (setT o as δ μ) R) (fun x => R (.ex x) δ μ))) (fun x => R (.ex x) δ μ))) (fun x => R (.ex x) δ μ)) := by
  show Es (eS _ _ _) _ = _
  rw [Es_eS]; refine Ev_ext fun e μ => ?_; cases e <;> simp only [okc_ok, okc_err]
  rw [Es_eS]; refine Ev_ext fun e μ => ?_; cases e <;> simp only [okc_ok, okc_err]
  rw [Es_eS]
@[simp] theorem Es_setT (as : List Sv) {n : Nat} : Es (setT (.c n) as δ μ) R = dttc μ[n]? (fun kss => optk (keysOf as) fun k => (kss.length < 16777216 ∧ as.length ≤ 16777216) ∧ R .nx δ (μ.set n (.dtt (if inK k kss = true then kss else kss ++ [k])))) := by
  unfold setT
  rcases h : μ[n]? with _ | (_ | _ | _ | _ | ks) <;> simp [dttc, h]
  cases keysOf as with
  | none => simp
  | some k => by_cases hc : ks.length < 16777216 ∧ as.length ≤ 16777216 <;> simp [hc]
end
end Z
namespace Z
open PySem PySem.Spec PyProof.Rows L2
open Sem (wp)
open AutoSeq1 (wpAny_loadPart')
/-! ## enumerate of a text -/
section
variable {prog : Program} {w : World} {A : Around} {E : Value → Shared → Prop} {s : Shared} {e it : Addr} {i c : Nat} {x : Str} {t : Tok} {ty : String} {old : Value}
theorem nextOf_sign {Q : Value → Shared → Prop} (hty : ty = "str_ascii_iterator" ∨ ty = "str_iterator") (hit : s.heap.IsStrIter it ty x t i) (hx : x.cps[i]? = some c)
    (hQ : ∀ h', h'.IsStrIter it ty x t (i + 1) → Heap.SameBut it s.heap h' → Q (.str ⟨#[c]⟩ s.toks) { s with heap := h', toks := s.toks + 1 }) :
    wpAny (model prog w) A (Builtin.SmallTypes.nextOf (.ref it)) Q E s := by
  rcases hty with rfl | rfl
  · exact wpAny_nextOf_ascii_item hit hx hQ
  · exact wpAny_nextOf_wide_item hit hx hQ
theorem nextOf_over {Q : Value → Shared → Prop} (hty : ty = "str_ascii_iterator" ∨ ty = "str_iterator") (hh : A.handled = none) (hit : s.heap.IsStrIter it ty x t i) (hx : x.cps[i]? = none)
    (hE : ∀ h' e, Heap.ExtBut it s.heap h' → (∃ o, h'.get? e = some o ∧ o.cls = .type "StopIteration") → E (.ref e) { s with heap := h' }) :
    wpAny (model prog w) A (Builtin.SmallTypes.nextOf (.ref it)) Q E s := by
  rcases hty with rfl | rfl
  · exact wpAny_nextOf_ascii_end hh hit hx hE
  · exact wpAny_nextOf_wide_end hh hit hx hE
theorem si_at {h h' : Heap} (y : h.IsStrIter it ty x t i) (k : ∀ o, h.get? it = some o → h'.get? it = some o) : h'.IsStrIter it ty x t i := let ⟨o, ho, r⟩ := y; ⟨o, k o ho, r⟩
theorem enumS_next {Q : Value → Shared → Prop} (hty : ty = "str_ascii_iterator" ∨ ty = "str_iterator")
    (he : IsEnum s.heap e it i old) (hit : s.heap.IsStrIter it ty x t i) (hx : x.cps[i]? = some c) (hne : e ≠ it)
    (hQ : ∀ h', IsEnumOut h' e it ((i : Int) + 1) (.str ⟨#[c]⟩ s.toks) s.heap.objs.size → h'.IsStrIter it ty x t (i + 1) →
      h'.get? s.heap.objs.size = some { cls := .type "tuple", data := .seq #[.int i (s.toks + 1), .str ⟨#[c]⟩ s.toks] } → h'.objs.size = s.heap.objs.size + 1 →
      (∀ b o, b ≠ e → b ≠ it → s.heap.get? b = some o → h'.get? b = some o) → Q (.ref s.heap.objs.size) { s with heap := h', toks := s.toks + 1 + 1 }) :
    wpAny (model prog w) A (Builtin.«enumerate.__next__» ⟨[.ref e], []⟩) (fun fin s' => ∃ v, fin = .done (.ret v) ∧ Q v s') E s := by
  obtain ⟨hp, g, d, tk, os⟩ := s
  show wpAny _ _ (field (.ref e) 2 >>= _) _ _ _
  refine wpAny_bind (wpAny_field he rfl (x := .ref it) rfl ?_)
  refine wpAny_bind (nextOf_sign hty hit hx fun h₁ hit₁ hs₁ => ?_)
  replace hs₁ : Heap.SameBut it hp h₁ := hs₁
  have he₁ : IsEnum h₁ e it i old := (hs₁.2 e hne).trans he
  show wpAny _ _ (field (.ref e) 3 >>= _) _ _ ⟨h₁, g, d, tk + 1, os⟩
  refine wpAny_bind (wpAny_field he₁ rfl (x := rawInt i) rfl ?_)
  show wpAny _ _ (field (.ref e) 4 >>= _) _ _ ⟨h₁, g, d, tk + 1, os⟩
  refine wpAny_bind (wpAny_field he₁ rfl (x := .none) rfl ?_)
  show wpAny _ _ (mkInt i >>= _) _ _ ⟨h₁, g, d, tk + 1, os⟩
  refine wpAny_bind (wpAny_mkInt ?_)
  show wpAny _ _ (setField (.ref e) 3 (rawInt ((i : Int) + 1)) >>= _) _ _ ⟨h₁, g, d, tk + 1 + 1, os⟩
  refine wpAny_bind (wpAny_setField_rec he₁ (by simp) fun h₂ he₂ hs₂ => ?_)
  replace hs₂ : Heap.SameBut e h₁ h₂ := hs₂
  replace he₂ : IsEnum h₂ e it ((i : Int) + 1) old := he₂
  show wpAny _ _ (setField (.ref e) 4 .none >>= _) _ _ ⟨h₂, g, d, tk + 1 + 1, os⟩
  refine wpAny_bind (wpAny_setField_rec he₂ (by simp) fun h₃ he₃ hs₃ => ?_)
  replace hs₃ : Heap.SameBut e h₂ h₃ := hs₃
  replace he₃ : IsEnum h₃ e it ((i : Int) + 1) old := he₃
  show wpAny _ _ (newTuple [.int i (tk + 1), .str ⟨#[c]⟩ tk] >>= _) _ _ ⟨h₃, g, d, tk + 1 + 1, os⟩
  refine wpAny_bind (wpAny_newTuple ?_)
  have he₄ : IsEnum (h₃.push { cls := .type "tuple", data := .seq #[.int i (tk + 1), .str ⟨#[c]⟩ tk] }) e it ((i : Int) + 1) old := Heap.get?_push_of_some _ he₃
  generalize hh₄ : h₃.push { cls := .type "tuple", data := .seq #[.int i (tk + 1), .str ⟨#[c]⟩ tk] } = h₄ at he₄
  have hsz : h₃.objs.size = hp.objs.size := by rw [hs₃.1, hs₂.1, hs₁.1]
  have hel : e < hp.objs.size := Heap.lt_size he
  have ht₄ : h₄.get? hp.objs.size = some { cls := .type "tuple", data := .seq #[.int i (tk + 1), .str ⟨#[c]⟩ tk] } := by rw [← hh₄, ← hsz]; exact Heap.get?_push_size _ rfl
  have hz₄ : h₄.objs.size = hp.objs.size + 1 := by rw [← hh₄, Heap.size_push, hsz]
  have hk₄ : ∀ b o, b ≠ e → b ≠ it → hp.get? b = some o → h₄.get? b = some o := fun b o hbe hbi hb => by
    rw [← hh₄]; exact Heap.get?_push_of_some _ (hs₃.extBut b o hbe (hs₂.extBut b o hbe (hs₁.extBut b o hbi hb)))
  have hit₄ : h₄.IsStrIter it ty x t (i + 1) := by
    rw [← hh₄]
    exact si_at ((hit₁.extBut hs₂.extBut (Ne.symm hne)).extBut hs₃.extBut (Ne.symm hne)) fun o q => Heap.get?_push_of_some _ q
  show wpAny _ _ (Builtin.SmallTypes.ownedTupleIsFree (.ref e) >>= _) _ _ ⟨h₄, g, d, tk + 1 + 1, os⟩
  rw [hsz]
  clear hh₄ he₃ hs₃ he₂ hs₂ he₁ hs₁ hit₁ hsz h₃ h₂ h₁
  refine wpAny_bind ?_
  · unfold Builtin.SmallTypes.ownedTupleIsFree
    refine wpAny_bind (wpAny_field he₄ rfl (x := .none) rfl (wpAny_pure ?_))
    simp only [if_true]
    refine wpAny_bind (wpAny_rule ?_)
    refine wpAny_bind (wpAny_field he₄ rfl (x := old) rfl ?_)
    refine wpAny_bind (wpAny_setField_rec he₄ (by simp) fun h₅ he₅ hs₅ => ?_)
    replace hs₅ : Heap.SameBut e h₄ h₅ := hs₅
    replace he₅ : IsEnum h₅ e it ((i : Int) + 1) (.str ⟨#[c]⟩ tk) := he₅
    show wpAny _ _ (Builtin.SmallTypes.ownedTupleHandOut (.ref e) (.ref hp.objs.size) >>= _) _ _ ⟨h₅, g, d, tk + 1 + 1, os⟩
    refine wpAny_bind ?_
    · unfold Builtin.SmallTypes.ownedTupleHandOut
      refine wpAny_bind (wpAny_setField_rec he₅ (by simp) fun h₆ he₆ hs₆ => ?_)
      replace hs₆ : Heap.SameBut e h₅ h₆ := hs₆
      replace he₆ : IsEnumOut h₆ e it ((i : Int) + 1) (.str ⟨#[c]⟩ tk) hp.objs.size := he₆
      refine wpAny_setField_rec he₆ (by simp) fun h₇ he₇ hs₇ => ?_
      replace hs₇ : Heap.SameBut e h₆ h₇ := hs₇
      replace he₇ : IsEnumOut h₇ e it ((i : Int) + 1) (.str ⟨#[c]⟩ tk) hp.objs.size := he₇
      refine wpAny_bind (wpAny_letGo (wpAny_pure ⟨_, rfl, hQ h₇ he₇ ?_ ?_ ?_ ?_⟩))
      · exact ((hit₄.extBut hs₅.extBut (Ne.symm hne)).extBut hs₆.extBut (Ne.symm hne)).extBut hs₇.extBut (Ne.symm hne)
      · exact hs₇.extBut _ _ (Nat.ne_of_gt hel) (hs₆.extBut _ _ (Nat.ne_of_gt hel) (hs₅.extBut _ _ (Nat.ne_of_gt hel) ht₄))
      · rw [hs₇.1, hs₆.1, hs₅.1, hz₄]
      · exact fun b o hbe hbi hb => hs₇.extBut b o hbe (hs₆.extBut b o hbe (hs₅.extBut b o hbe (hk₄ b o hbe hbi hb)))
theorem pyNext_enumS_item {Q : Option Value → Shared → Prop} (hty : ty = "str_ascii_iterator" ∨ ty = "str_iterator")
    (he : IsEnum s.heap e it i old) (hit : s.heap.IsStrIter it ty x t i) (hx : x.cps[i]? = some c) (hne : e ≠ it)
    (hQ : ∀ h', IsEnumOut h' e it ((i : Int) + 1) (.str ⟨#[c]⟩ s.toks) s.heap.objs.size → h'.IsStrIter it ty x t (i + 1) →
      h'.get? s.heap.objs.size = some { cls := .type "tuple", data := .seq #[.int i (s.toks + 1), .str ⟨#[c]⟩ s.toks] } → h'.objs.size = s.heap.objs.size + 1 →
      (∀ b o, b ≠ e → b ≠ it → s.heap.get? b = some o → h'.get? b = some o) → Q (some (.ref s.heap.objs.size)) { s with heap := h', toks := s.toks + 1 + 1 }) :
    wpAny (model prog w) A (pyNext (.ref e)) Q E s := by
  have hT : s.TypeIs (.ref e) "enumerate" := ⟨_, he, rfl⟩
  unfold pyNext
  exact wpAny_bind (wpAny_attempt (wpAny_callSpecial?_slot (name := Str.ofString "__next__") hT F.slot_enumerate_next
    (wpAny_call_entry F.slot_enumerate_next hT F.entry_enumerate_next
      (enumS_next hty he hit hx hne fun h' a b c d k => wpAny_pure (hQ h' a b c d k)) (F.args_enumerate_next_1 _))))
theorem pyNext_enumS_end {Q : Option Value → Shared → Prop} (hty : ty = "str_ascii_iterator" ∨ ty = "str_iterator") (hh : A.handled = none)
    (he : IsEnum s.heap e it i old) (hit : s.heap.IsStrIter it ty x t i) (hx : x.cps[i]? = none)
    (hQ : ∀ h', Heap.ExtBut it s.heap h' → Q none { s with heap := h' }) : wpAny (model prog w) A (pyNext (.ref e)) Q E s := by
  have hT : s.TypeIs (.ref e) "enumerate" := ⟨_, he, rfl⟩
  unfold pyNext
  refine wpAny_bind (wpAny_attempt (wpAny_callSpecial?_slot (name := Str.ofString "__next__") hT F.slot_enumerate_next
    (wpAny_call_entry F.slot_enumerate_next hT F.entry_enumerate_next ?_ (F.args_enumerate_next_1 _))))
  show wpAny _ _ (field (.ref e) 2 >>= _) _ _ _
  refine wpAny_bind (wpAny_field he rfl (x := .ref it) rfl ?_)
  refine wpAny_bind (nextOf_over hty hh hit hx fun h' x he' hx' => ?_)
  obtain ⟨o, ho, hc⟩ := hx'
  refine wpAny_bind (wpAny_isInstance (T := "StopIteration") (b := true) ⟨o, ho, hc⟩ isSubtype_stop ?_)
  exact wpAny_pure (hQ _ he')
end
def IteS (x : Str) : It :=
  ⟨fun i _ => i < x.cps.size, fun i H v H' => ∃ T c, v = .ref T ∧ H T = none ∧ H' = upd H T (.tup [.int (i : Nat), .str ⟨#[c]⟩]) ∧ x.cps[i]? = some c, fun i _ => x.cps.size ≤ i⟩
theorem turn_enumS {P : Program} {w : World} {K : PySem.W.Frag} {elts : List Expr} {kk : Nat} {tpos : Pos} (x : Str) (t : Tok) (ty : String) (hty : ty = "str_ascii_iterator" ∨ ty = "str_iterator") (e it : Addr) :
    Turn P w K (.Tuple elts kk tpos) (IteS x) [e, it] e (fun i h => (∃ old, IsEnum h e it ((i : Nat) : Int) old) ∧ h.IsStrIter it ty x t i ∧ e ≠ it) where
  mem := by simp
  obj := fun i h st b hb => by
    obtain ⟨⟨old, he⟩, ⟨o, ho, hc, hd⟩, _⟩ := st
    have e' : b = e ∨ b = it := by simpa using hb
    rcases e' with z | z
    · rw [z]; exact ⟨_, he, fun v q => nomatch q⟩
    · rw [z]; exact ⟨o, ho, fun v q => by rw [hd] at q; cases q⟩
  keep := fun i h h' st k => let ⟨⟨old, he⟩, ⟨o, ho, r⟩, hne⟩ := st; ⟨⟨old, k e (by simp) _ he⟩, ⟨o, k it (by simp) o ho, r⟩, hne⟩
  item := by
    intro X hP hw hK hc i pins s σ H E I hf st hg
    subst hP hw hK
    obtain ⟨⟨old, he⟩, hit, hne⟩ := st
    obtain ⟨c, hx⟩ : ∃ c, x.cps[i]? = some c := ⟨_, Array.getElem?_eq_getElem hg⟩
    have hel : e < s.heap.objs.size := Heap.lt_size he
    have hil : it < s.heap.objs.size := by obtain ⟨_, q, _⟩ := hit; exact Heap.lt_size q
    refine pyNext_enumS_item hty he hit hx hne fun h' ho hit' hT hsz hk => ?_
    refine ⟨_, rfl, wpAny_letOwnedTupleGo_enum (s := { s with heap := h', toks := s.toks + 1 + 1 }) ho fun h'' he' sb => ?_⟩
    have hT2 : h''.get? s.heap.objs.size = some { cls := .type "tuple", data := .seq #[.int i (s.toks + 1), .str ⟨#[c]⟩ s.toks] } := (sb.2 _ (Nat.ne_of_gt hel)).trans hT
    have new : ObjOk X.prog X.w (upd H s.heap.objs.size (.tup [.int (i : Nat), .str ⟨#[c]⟩])) h'' s.heap.objs.size (.tup [.int (i : Nat), .str ⟨#[c]⟩]) :=
      ⟨by show 2 ≤ sizeLine; decide, [.int i (s.toks + 1), .str ⟨#[c]⟩ s.toks], .cons ⟨_, rfl⟩ (.cons ⟨_, rfl⟩ .nil), ⟨_, hT2, rfl, _, rfl⟩⟩
    have I1 : Inv X pins σ (upd H s.heap.objs.size (.tup [.int (i : Nat), .str ⟨#[c]⟩])) { s with heap := h'', toks := s.toks + 1 + 1 } :=
      I.turnedNew (ch := [e, it]) (fun b ob hb q => (sb.2 b (fun z => hb (by simp [z]))).trans (hk b ob (fun z => hb (by simp [z])) (fun z => hb (by simp [z])) q)) hf (Nat.le_refl _) new
    refine ⟨.ref s.heap.objs.size, _, I1, rfl, ⟨_, c, rfl, I.hok.fresh (Nat.le_refl _), rfl, hx⟩, ⟨⟨.str ⟨#[c]⟩ s.toks, ?_⟩, ?_, hne⟩, fun b hb => ?_⟩
    · have e1 : ((i + 1 : Nat) : Int) = (i : Int) + 1 := by omega
      rw [e1]; exact he'
    · exact si_at hit' fun o eo => (sb.2 it (Ne.symm hne)).trans eo
    · have hb' : b < s.heap.objs.size := by
        have e' : b = e ∨ b = it := by simpa using hb
        rcases e' with z | z
        · rw [z]; exact hel
        · rw [z]; exact hil
      rw [upd_ne (Nat.ne_of_lt hb')]
      exact (hf b hb).1
  done := by
    intro X hP hw hK hc i pins s σ H E I hf st hg
    subst hP hw hK
    obtain ⟨⟨old, he⟩, hit, hne⟩ := st
    obtain ⟨f0, f1, f2, f3, f4, f5⟩ := hf it (by simp)
    exact pyNext_enumS_end hty (I.ok.hd hc) he hit (Array.getElem?_eq_none hg) fun h' eb => ⟨rfl, I.turned (t' := s.toks) (fun b o hb q => eb b o hb q) f0 f1 f3 f4 f5⟩
  self := fun A i s Q E st h => let ⟨⟨_, he⟩, _⟩ := st; wpAny_pyIter_enum he h
def iEnumS (ta : TA) : TI := fun σ H R => ta σ H fun vs H1 => ∃ x, vs = [.str x] ∧ R (IteS x) H1
theorem pi_enumS {X : Cx} {e : Expr} {ta : TA} {p pos tpos : Pos} {elts : List Expr} {kk : Nat} (hg : Gl X "enumerate") (hm : X.mg "enumerate" = none) (ha : PA X [e] ta) (hs : starEach [e] X.env = [(false, eval e X.env)] := by rfl) :
    PI X (.Tuple elts kk tpos) (.Call (.Name "enumerate" p) [e] [] pos) (iEnumS ta) := by
  refine ⟨fun pins s σ H R I h => ?_⟩
  refine Call_ (ld_blt I hg hm boot_enumerate (PyProof.Rows.callWith_type1 (thn (ha.run pos pins s σ H _ I h) fun us s1 ⟨vs, H1, I1, r1, q1⟩ => ?_) hs rfl))
  obtain ⟨x, ex, q⟩ := q1
  subst ex
  obtain ⟨u, rfl, t, rfl⟩ := vals1 r1
  have fresh2 : ∀ b, b ∈ [s1.heap.objs.size + 1, s1.heap.objs.size] → FpOk X pins H1 b := fun b hb => by
    have e' : b = s1.heap.objs.size + 1 ∨ b = s1.heap.objs.size := by simpa using hb
    have hle : s1.heap.objs.size ≤ b := by omega
    exact I1.fpOk hle (I1.hok.fresh hle)
  refine call_enumerate_str fun h' he hit hsz hk => wpAny_pyIter_enum he ?_
  have I2 : Inv X pins σ H1 { s1 with heap := h' } := I1.kept (t' := s1.toks) hk
  have hty : strIterType x = "str_ascii_iterator" ∨ strIterType x = "str_iterator" := by unfold strIterType; split <;> simp
  exact ⟨s1.heap.objs.size + 1, [s1.heap.objs.size + 1, s1.heap.objs.size], _, _, H1, rfl, I2, turn_enumS x t _ hty (s1.heap.objs.size + 1) s1.heap.objs.size, ⟨⟨.none, he⟩, hit, Nat.succ_ne_self _⟩, fresh2, q⟩
def enumSO (as : List Sv) (μ : Mu) : Rz Wk := match as with
  | [.d (.str x)] => some (.ok ⟨enI 0 (x.map fun c => D.str [c]), fun _ => True⟩, μ)
  | _ => none
def fEnumS (fr : Fz (List Sv)) : Fz Wk := fun δ μ => (fr δ μ).bind fun as μ => enumSO as μ
section
variable {G : Gx} {X : Cx} {W : WX} {a : Expr} {fr : Fz (List Sv)} {p pos : Pos}
theorem zi_enumS (hK : G.K = X.K) {elts : List Expr} {kk : Nat} {tpos : Pos} (hg : Gl X "enumerate") (hm : X.mg "enumerate" = none) (ha : PA X [a] (zA G W fr)) (hs : starEach [a] X.env = [(false, eval a X.env)] := by rfl) :
    PI X (.Tuple elts kk tpos) (.Call (.Name "enumerate" p) [a] [] pos) (zW G W (fEnumS fr)) := piImp (pi_enumS hg hm ha hs) fun σ H R q => by
  obtain ⟨F, ρ, δ, μ, rr, w, s, e, p⟩ := q
  refine zstep w s e p fun sa μ1 x F1 ρ1 H1 g1 w1 s1 rx e1 p1 => ?_
  unfold enumSO at e1
  split at e1
  · rename_i ds
    cases e1
    cases rx with
    | cons r t =>
      cases t
      cases r with
      | d r =>
        obtain ⟨y, rfl, hy⟩ := rp_strE r
        refine ⟨y, rfl, ?_⟩
        refine p1.ok w1 (fun F' ρ' μ' H' g w' c i => ?_)
        refine ⟨fun hi => ?_, fun z hz => ?_⟩
        · show y.cps.size ≤ i
          rw [enI_len, List.length_map, ← hy] at hi
          simpa using hi
        · rw [enI_get, List.getElem?_map] at hz
          cases hd2 : ds[i]? with
          | none => rw [hd2] at hz; cases hz
          | some d =>
            rw [hd2] at hz
            have hz' : Sv.d (.tup [.int ((0 + i : Nat) : Int), .str [d]]) = z := Option.some.inj hz
            subst hz'
            have hc : y.cps[i]? = some d := by rw [← hy] at hd2; simpa using hd2
            refine ⟨(Array.getElem?_eq_some_iff.1 hc).1, fun x H'' ⟨T, c2, ev, hT, eH, hx⟩ => ?_⟩
            rw [hc] at hx; cases hx
            subst ev eH
            obtain ⟨w2, g2⟩ := w'.newD hT (.tup [.int (i : Nat), .str ⟨#[d]⟩])
            refine ⟨_, ρ', g2, w2, .d (.tup (SqT.of upd_same) ?_)⟩
            rw [Nat.zero_add]
            exact .cons (.int _) (.cons (.str ⟨#[d]⟩) .nil)
  · cases e1
end
section
variable {P : Except Exn Wk → Mu → Prop} {δ : Dl} {μ : Mu}
@[simp] theorem Ev_enumS (fr : Fz (List Sv)) : Ev (fEnumS fr δ μ) P = Ev (fr δ μ) (fun e μ => okc e (fun a => Ev (enumSO a μ) P) (fun x => P (.error x) μ)) := by
  show Ev (Rz.bind _ (fun a μ => enumSO a μ)) _ = _
  rw [Ev_bind]
@[simp] theorem enumSO_s (x : List Nat) : enumSO [.d (.str x)] μ = some (.ok ⟨enI 0 (x.map fun c => D.str [c]), fun _ => True⟩, μ) := rfl
end
end Z
namespace Z
open PySem PySem.Spec PyProof.Rows L2
open Sem (wp)
/-! ## list of a text -/
def sgV (x : Str) : List V := x.cps.toList.map fun c => .str ⟨#[c]⟩
theorem vals_sg : ∀ (l : List Nat) (vs : List Value), vs.length = l.length → (∀ (j : Nat) (v : Value), vs[j]? = some v → ∃ c u, l[j]? = some c ∧ v = .str ⟨#[c]⟩ u) → Vals (l.map fun c => V.str ⟨#[c]⟩) vs
  | [], [], _, _ => .nil
  | [], v :: r, h, _ => by simp at h
  | c :: l, [], h, _ => by simp at h
  | c :: l, v :: r, h, k => by
    obtain ⟨c', u, h1, rfl⟩ := k 0 v rfl
    simp at h1; subst h1
    exact .cons ⟨u, rfl⟩ (vals_sg l r (by simpa using h) fun j v hj => by
      obtain ⟨c', u, h1, h2⟩ := k (j + 1) v (by simpa using hj)
      exact ⟨c', u, by simpa using h1, h2⟩)
theorem cr_listS {X : Cx} (hc : X.calm = true) : CallR X (.type "list") (fun xs H Q => ∃ x, xs = [.str x] ∧ x.length ≤ sizeLine ∧ ∀ l, H l = none → Q (.ref l) (upd H l (.lst (sgV x)))) := by
  intro pins s σ H xs us Q I r h
  obtain ⟨x, rfl, hx, q⟩ := h
  obtain ⟨u, rfl, t, rfl⟩ := vals1 r
  refine call_list_str (I.ok.hd hc) x t (hn := hx) fun h' tk acc' c' hk hS' hacc => ?_
  have hv : Vals (sgV x) acc'.toList := vals_sg _ _ (by simpa using hacc.1) fun j v hj => by
    obtain ⟨c, u, h1, h2⟩ := hacc.2 j v (by simpa using hj)
    exact ⟨c, u, by simpa using h1, h2⟩
  exact ⟨.ref s.heap.objs.size, _, I.laid (t' := tk) hk (Nat.le_refl _) (show ObjOk X.prog X.w _ h' _ (.lst (sgV x)) from ⟨by simp [sgV]; exact hx, acc'.toList, c', hv, by simpa using hS'⟩), rfl, q _ (I.hok.fresh (Nat.le_refl _))⟩
def bListS : Opn := fun as μ => match as with
  | [.d (.str s)] => if s.length ≤ 16777216 then okz (.lst (s.map fun c => .str [c])) μ else none
  | _ => none
def bListSC : Opn := fun as μ => match as with
  | [.d (.str s)] => if s.length ≤ 16777216 then some (.ok (.c μ.length), μ ++ [.lst (s.map fun c => .d (.str [c]))]) else none
  | _ => none
theorem rsl_sg {G : Gx} {F : Hp} {ρ : List Addr} : ∀ l : List Nat, RsL G F ρ (l.map fun c => V.str ⟨#[c]⟩) (l.map fun c => Sv.d (.str [c]))
  | [] => .nil
  | c :: r => .cons (.d (.str ⟨#[c]⟩)) (rsl_sg r)
theorem rpl_sg {G : Gx} {F : Hp} : ∀ l : List Nat, RpL G F (l.map fun c => V.str ⟨#[c]⟩) (l.map fun c => D.str [c])
  | [] => .nil
  | c :: r => .cons (.str ⟨#[c]⟩) (rpl_sg r)
section
variable {G : Gx} {X : Cx} {W : WX}
theorem so_listS : SOpn G W (fun xs H Q => ∃ x, xs = [.str x] ∧ x.length ≤ sizeLine ∧ ∀ l, H l = none → Q (.ref l) (upd H l (.lst (sgV x)))) bListS := by
  intro F ρ μ H σ vs as rr Q w r h p
  unfold bListS at h
  split at h
  · split at h
    · rename_i s hs
      cases h
      cases r with
      | cons r t =>
        cases t
        cases r with
        | d r =>
          obtain ⟨x, rfl, hx⟩ := rp_strE r
          refine ⟨x, rfl, ?_, fun q hq => ?_⟩
          · rw [szl]; rw [← hx] at hs; simpa [Str.length] using hs
          · obtain ⟨w2, g2⟩ := w.newD hq (.lst (sgV x))
            refine p _ _ _ _ g2 w2 (.d (.lst (SqL.of upd_same) ?_))
            unfold sgV; rw [hx]; exact rpl_sg _
    · cases h
  · cases h
theorem so_listSC : SOpn G W (fun xs H Q => ∃ x, xs = [.str x] ∧ x.length ≤ sizeLine ∧ ∀ l, H l = none → Q (.ref l) (upd H l (.lst (sgV x)))) bListSC := by
  intro F ρ μ H σ vs as rr Q w r h p
  unfold bListSC at h
  split at h
  · split at h
    · rename_i s hs
      cases h
      cases r with
      | cons r t =>
        cases t
        cases r with
        | d r =>
          obtain ⟨x, rfl, hx⟩ := rp_strE r
          refine ⟨x, rfl, ?_, fun q hq => ?_⟩
          · rw [szl]; rw [← hx] at hs; simpa [Str.length] using hs
          · obtain ⟨w2, g2⟩ := w.newC hq (o := .lst (sgV x)) (c := .lst (s.map fun c => .d (.str [c]))) ⟨w.ex.none hq, sgV x, upd_same, by unfold sgV; rw [hx]; exact rsl_sg _⟩
            exact p _ _ _ _ g2 w2 (.c (by rw [← w.len]; simp))
    · cases h
  · cases h
end
section
variable {P : Except Exn Sv → Mu → Prop} {μ : Mu}
@[simp] theorem bListS_s (s : List Nat) : bListS [.d (.str s)] μ = if s.length ≤ 16777216 then okz (.lst (s.map fun c => .str [c])) μ else none := rfl
@[simp] theorem bListSC_s (s : List Nat) : bListSC [.d (.str s)] μ = if s.length ≤ 16777216 then some (.ok (.c μ.length), μ ++ [.lst (s.map fun c => .d (.str [c]))]) else none := rfl
end
end Z
namespace Y
open PySem PySem.Spec PyProof.Rows L2 Z
def is_Many : Tg → Option Bool := isG noB [("Kind", false), ("Word", false), ("Run", false), ("Row", false), ("Pick", false), ("Many", true), ("Laying", false)] []
@[simp] theorem is_Many_NoneType : is_Many (.b "NoneType") = some false := by decide +kernel
@[simp] theorem is_Many_bool : is_Many (.b "bool") = some false := by decide +kernel
@[simp] theorem is_Many_int : is_Many (.b "int") = some false := by decide +kernel
@[simp] theorem is_Many_str : is_Many (.b "str") = some false := by decide +kernel
@[simp] theorem is_Many_list : is_Many (.b "list") = some false := by decide +kernel
@[simp] theorem is_Many_tuple : is_Many (.b "tuple") = some false := by decide +kernel
@[simp] theorem is_Many_dict : is_Many (.b "dict") = some false := by decide +kernel
@[simp] theorem is_Many_o_Kind : is_Many (.o "Kind") = some false := by decide +kernel
@[simp] theorem is_Many_o_Word : is_Many (.o "Word") = some false := by decide +kernel
@[simp] theorem is_Many_o_Run : is_Many (.o "Run") = some false := by decide +kernel
@[simp] theorem is_Many_o_Row : is_Many (.o "Row") = some false := by decide +kernel
@[simp] theorem is_Many_o_Pick : is_Many (.o "Pick") = some false := by decide +kernel
@[simp] theorem is_Many_o_Many : is_Many (.o "Many") = some true := by decide +kernel
@[simp] theorem is_Many_o_Laying : is_Many (.o "Laying") = some false := by decide +kernel
def is_Pick : Tg → Option Bool := isG noB [("Kind", false), ("Word", false), ("Run", false), ("Row", false), ("Pick", true), ("Many", false), ("Laying", false)] []
@[simp] theorem is_Pick_NoneType : is_Pick (.b "NoneType") = some false := by decide +kernel
@[simp] theorem is_Pick_bool : is_Pick (.b "bool") = some false := by decide +kernel
@[simp] theorem is_Pick_int : is_Pick (.b "int") = some false := by decide +kernel
@[simp] theorem is_Pick_str : is_Pick (.b "str") = some false := by decide +kernel
@[simp] theorem is_Pick_list : is_Pick (.b "list") = some false := by decide +kernel
@[simp] theorem is_Pick_tuple : is_Pick (.b "tuple") = some false := by decide +kernel
@[simp] theorem is_Pick_dict : is_Pick (.b "dict") = some false := by decide +kernel
@[simp] theorem is_Pick_o_Kind : is_Pick (.o "Kind") = some false := by decide +kernel
@[simp] theorem is_Pick_o_Word : is_Pick (.o "Word") = some false := by decide +kernel
@[simp] theorem is_Pick_o_Run : is_Pick (.o "Run") = some false := by decide +kernel
@[simp] theorem is_Pick_o_Row : is_Pick (.o "Row") = some false := by decide +kernel
@[simp] theorem is_Pick_o_Pick : is_Pick (.o "Pick") = some true := by decide +kernel
@[simp] theorem is_Pick_o_Many : is_Pick (.o "Many") = some false := by decide +kernel
@[simp] theorem is_Pick_o_Laying : is_Pick (.o "Laying") = some false := by decide +kernel
def is_Row : Tg → Option Bool := isG noB [("Kind", false), ("Word", false), ("Run", false), ("Row", true), ("Pick", false), ("Many", false), ("Laying", false)] []
@[simp] theorem is_Row_NoneType : is_Row (.b "NoneType") = some false := by decide +kernel
@[simp] theorem is_Row_bool : is_Row (.b "bool") = some false := by decide +kernel
@[simp] theorem is_Row_int : is_Row (.b "int") = some false := by decide +kernel
@[simp] theorem is_Row_str : is_Row (.b "str") = some false := by decide +kernel
@[simp] theorem is_Row_list : is_Row (.b "list") = some false := by decide +kernel
@[simp] theorem is_Row_tuple : is_Row (.b "tuple") = some false := by decide +kernel
@[simp] theorem is_Row_dict : is_Row (.b "dict") = some false := by decide +kernel
@[simp] theorem is_Row_o_Kind : is_Row (.o "Kind") = some false := by decide +kernel
@[simp] theorem is_Row_o_Word : is_Row (.o "Word") = some false := by decide +kernel
@[simp] theorem is_Row_o_Run : is_Row (.o "Run") = some false := by decide +kernel
@[simp] theorem is_Row_o_Row : is_Row (.o "Row") = some true := by decide +kernel
@[simp] theorem is_Row_o_Pick : is_Row (.o "Pick") = some false := by decide +kernel
@[simp] theorem is_Row_o_Many : is_Row (.o "Many") = some false := by decide +kernel
@[simp] theorem is_Row_o_Laying : is_Row (.o "Laying") = some false := by decide +kernel
def is_Run : Tg → Option Bool := isG noB [("Kind", false), ("Word", false), ("Run", true), ("Row", false), ("Pick", false), ("Many", false), ("Laying", false)] []
@[simp] theorem is_Run_NoneType : is_Run (.b "NoneType") = some false := by decide +kernel
@[simp] theorem is_Run_bool : is_Run (.b "bool") = some false := by decide +kernel
@[simp] theorem is_Run_int : is_Run (.b "int") = some false := by decide +kernel
@[simp] theorem is_Run_str : is_Run (.b "str") = some false := by decide +kernel
@[simp] theorem is_Run_list : is_Run (.b "list") = some false := by decide +kernel
@[simp] theorem is_Run_tuple : is_Run (.b "tuple") = some false := by decide +kernel
@[simp] theorem is_Run_dict : is_Run (.b "dict") = some false := by decide +kernel
@[simp] theorem is_Run_o_Kind : is_Run (.o "Kind") = some false := by decide +kernel
@[simp] theorem is_Run_o_Word : is_Run (.o "Word") = some false := by decide +kernel
@[simp] theorem is_Run_o_Run : is_Run (.o "Run") = some true := by decide +kernel
@[simp] theorem is_Run_o_Row : is_Run (.o "Row") = some false := by decide +kernel
@[simp] theorem is_Run_o_Pick : is_Run (.o "Pick") = some false := by decide +kernel
@[simp] theorem is_Run_o_Many : is_Run (.o "Many") = some false := by decide +kernel
@[simp] theorem is_Run_o_Laying : is_Run (.o "Laying") = some false := by decide +kernel
def is_Word : Tg → Option Bool := isG noB [("Kind", false), ("Word", true), ("Run", false), ("Row", false), ("Pick", false), ("Many", false), ("Laying", false)] []
@[simp] theorem is_Word_NoneType : is_Word (.b "NoneType") = some false := by decide +kernel
@[simp] theorem is_Word_bool : is_Word (.b "bool") = some false := by decide +kernel
@[simp] theorem is_Word_int : is_Word (.b "int") = some false := by decide +kernel
@[simp] theorem is_Word_str : is_Word (.b "str") = some false := by decide +kernel
@[simp] theorem is_Word_list : is_Word (.b "list") = some false := by decide +kernel
@[simp] theorem is_Word_tuple : is_Word (.b "tuple") = some false := by decide +kernel
@[simp] theorem is_Word_dict : is_Word (.b "dict") = some false := by decide +kernel
@[simp] theorem is_Word_o_Kind : is_Word (.o "Kind") = some false := by decide +kernel
@[simp] theorem is_Word_o_Word : is_Word (.o "Word") = some true := by decide +kernel
@[simp] theorem is_Word_o_Run : is_Word (.o "Run") = some false := by decide +kernel
@[simp] theorem is_Word_o_Row : is_Word (.o "Row") = some false := by decide +kernel
@[simp] theorem is_Word_o_Pick : is_Word (.o "Pick") = some false := by decide +kernel
@[simp] theorem is_Word_o_Many : is_Word (.o "Many") = some false := by decide +kernel
@[simp] theorem is_Word_o_Laying : is_Word (.o "Laying") = some false := by decide +kernel
def is_bool : Tg → Option Bool := isG (btB "bool") [] []
@[simp] theorem is_bool_NoneType : is_bool (.b "NoneType") = some false := by decide +kernel
@[simp] theorem is_bool_bool : is_bool (.b "bool") = some true := by decide +kernel
@[simp] theorem is_bool_int : is_bool (.b "int") = some false := by decide +kernel
@[simp] theorem is_bool_str : is_bool (.b "str") = some false := by decide +kernel
@[simp] theorem is_bool_list : is_bool (.b "list") = some false := by decide +kernel
@[simp] theorem is_bool_tuple : is_bool (.b "tuple") = some false := by decide +kernel
@[simp] theorem is_bool_dict : is_bool (.b "dict") = some false := by decide +kernel
def is_int : Tg → Option Bool := isG (btB "int") [] []
@[simp] theorem is_int_NoneType : is_int (.b "NoneType") = some false := by decide +kernel
@[simp] theorem is_int_bool : is_int (.b "bool") = some true := by decide +kernel
@[simp] theorem is_int_int : is_int (.b "int") = some true := by decide +kernel
@[simp] theorem is_int_str : is_int (.b "str") = some false := by decide +kernel
@[simp] theorem is_int_list : is_int (.b "list") = some false := by decide +kernel
@[simp] theorem is_int_tuple : is_int (.b "tuple") = some false := by decide +kernel
@[simp] theorem is_int_dict : is_int (.b "dict") = some false := by decide +kernel
def is_list : Tg → Option Bool := isG (btB "list") [] []
@[simp] theorem is_list_NoneType : is_list (.b "NoneType") = some false := by decide +kernel
@[simp] theorem is_list_bool : is_list (.b "bool") = some false := by decide +kernel
@[simp] theorem is_list_int : is_list (.b "int") = some false := by decide +kernel
@[simp] theorem is_list_str : is_list (.b "str") = some false := by decide +kernel
@[simp] theorem is_list_list : is_list (.b "list") = some true := by decide +kernel
@[simp] theorem is_list_tuple : is_list (.b "tuple") = some false := by decide +kernel
@[simp] theorem is_list_dict : is_list (.b "dict") = some false := by decide +kernel
def is_str : Tg → Option Bool := isG (btB "str") [] []
@[simp] theorem is_str_NoneType : is_str (.b "NoneType") = some false := by decide +kernel
@[simp] theorem is_str_bool : is_str (.b "bool") = some false := by decide +kernel
@[simp] theorem is_str_int : is_str (.b "int") = some false := by decide +kernel
@[simp] theorem is_str_str : is_str (.b "str") = some true := by decide +kernel
@[simp] theorem is_str_list : is_str (.b "list") = some false := by decide +kernel
@[simp] theorem is_str_tuple : is_str (.b "tuple") = some false := by decide +kernel
@[simp] theorem is_str_dict : is_str (.b "dict") = some false := by decide +kernel
def is_tuple : Tg → Option Bool := isG (btB "tuple") [] []
@[simp] theorem is_tuple_NoneType : is_tuple (.b "NoneType") = some false := by decide +kernel
@[simp] theorem is_tuple_bool : is_tuple (.b "bool") = some false := by decide +kernel
@[simp] theorem is_tuple_int : is_tuple (.b "int") = some false := by decide +kernel
@[simp] theorem is_tuple_str : is_tuple (.b "str") = some false := by decide +kernel
@[simp] theorem is_tuple_list : is_tuple (.b "list") = some false := by decide +kernel
@[simp] theorem is_tuple_tuple : is_tuple (.b "tuple") = some true := by decide +kernel
@[simp] theorem is_tuple_dict : is_tuple (.b "dict") = some false := by decide +kernel
def ct : Ct := ⟨[("Kind", []), ("Word", ["text"]), ("Run", ["signs", "least", "most"]), ("Row", ["parts"]), ("Pick", ["parts"]), ("Many", ["part", "between"]), ("Laying", ["heap"])], []⟩
@[simp] theorem hf_Word_text : hasF ct.ins "Word" "text" = true := by decide
@[simp] theorem hf_Run_signs : hasF ct.ins "Run" "signs" = true := by decide
@[simp] theorem hf_Run_least : hasF ct.ins "Run" "least" = true := by decide
@[simp] theorem hf_Run_most : hasF ct.ins "Run" "most" = true := by decide
@[simp] theorem hf_Row_parts : hasF ct.ins "Row" "parts" = true := by decide
@[simp] theorem hf_Pick_parts : hasF ct.ins "Pick" "parts" = true := by decide
@[simp] theorem hf_Many_part : hasF ct.ins "Many" "part" = true := by decide
@[simp] theorem hf_Many_between : hasF ct.ins "Many" "between" = true := by decide
@[simp] theorem hf_Laying_heap : hasF ct.ins "Laying" "heap" = true := by decide
/-- _law_draw: _law_script, _law_at, _law_many, _law_k, _law_cells, _law_number -/
noncomputable def f_L_draw : Fn := runB 3 6 (sSeq (sSet 3 (fOp2 oIx (fVar 1) (fC (.int 0)))) (sSeq (sPut (fVar 1) (fC (.int 0)) (fOp2 oAdd (fVar 3) (fC (.int 1)))) (sSeq (sSet 4 (fOp2 oAdd (fVar 0) (fOp2 oRep (fLstC (fCons (fC (.int 0)) (fNil))) (fOpn bInt (fCons (fOp2 oEq (fVar 0) (fLst (fNil))) (fNil)))))) (sSeq (sSet 5 (fOp2 oMod (fOp2 oMulI (fOp2 oAdd (fOp2 oAdd (fOp2 oMod (fOp2 oIx (fVar 4) (fOp2 oMod (fVar 3) (fOpn bLen (fCons (fVar 4) (fNil))))) (fC (.int 1000000007))) (fOp2 oMulI (fC (.int 31)) (fVar 3))) (fC (.int 17))) (fC (.int 48271))) (fC (.int 2147483647)))) (sRet (fOp2 oMod (fOp2 oDiv (fOp2 oMod (fOp2 oMulI (fVar 5) (fOp2 oAdd (fOp2 oMulI (fVar 3) (fVar 3)) (fC (.int 16807)))) (fC (.int 2147483629))) (fC (.int 4096))) (fVar 2)))))))
/-- _law_taken: _law_pool_here, _law_many, _law_found -/
noncomputable def f_L_taken : Fn := runB 2 3 (sSeq (sSet 2 (fSl (fOp2 oIx (fVar 0) (fC (.int 0))) fNo (fPt (fVar 1)))) (sSeq (sPut (fVar 0) (fC (.int 0)) (fSl (fOp2 oIx (fVar 0) (fC (.int 0))) (fPt (fVar 1)) fNo)) (sRet (fVar 2))))
/-- _law_tangled: _law_script, _law_at, _law_pool_here, _law_a, _law_b, _law_c, _law_least, _law_letters, _law_many, _law_some, _law_word -/
noncomputable def f_L_tangled : Fn := runB 3 11 (sSeq (sAsg (gL (gC (gN 3) (gC (gN 4) (gC (gN 5) (gE))))) (fOpn bListS (fCons (fCall f_L_taken [] (fCons (fVar 2) (fCons (fC (.int 3)) (fNil)))) (fNil)))) (sSeq (sSet 6 (fCall f_L_draw [] (fCons (fVar 0) (fCons (fVar 1) (fCons (fC (.int 3)) (fNil)))))) (sSeq (sSet 7 (fTup (fCons (fC (.str [114, 117, 110])) (fCons (fOp2 oAdd (fVar 3) (fVar 4)) (fCons (fVar 6) (fCons (fOp2 oAdd (fOp2 oAdd (fVar 6) (fC (.int 1))) (fCall f_L_draw [] (fCons (fVar 0) (fCons (fVar 1) (fCons (fC (.int 4)) (fNil)))))) (fNil))))))) (sSeq (sSet 8 (fTup (fCons (fC (.str [109, 97, 110, 121])) (fCons (fTup (fCons (fC (.str [119, 111, 114, 100])) (fCons (fVar 3) (fNil)))) (fCons (fC (.str [])) (fNil)))))) (sSeq (sSet 9 (fLstC (fCons (fTup (fCons (fC (.str [114, 111, 119])) (fCons (fTup (fCons (fVar 7) (fCons (fTup (fCons (fC (.str [119, 111, 114, 100])) (fCons (fOp2 oAdd (fVar 4) (fVar 5)) (fNil)))) (fNil)))) (fNil)))) (fCons (fTup (fCons (fC (.str [114, 111, 119])) (fCons (fTup (fCons (fVar 7) (fCons (fTup (fCons (fC (.str [119, 111, 114, 100])) (fCons (fVar 4) (fNil)))) (fNil)))) (fNil)))) (fNil))))) (sSeq (sEx (fM "list" mApp (fVar 9) (fCons (fTup (fCons (fC (.str [114, 111, 119])) (fCons (fTup (fCons (fVar 7) (fCons (fTup (fCons (fC (.str [114, 117, 110])) (fCons (fOp2 oAdd (fVar 4) (fVar 5)) (fCons (fC (.int 2)) (fCons (fC (.int 2)) (fNil)))))) (fNil)))) (fNil)))) (fNil)))) (sSeq (sEx (fM "list" mApp (fVar 9) (fCons (fTup (fCons (fC (.str [112, 105, 99, 107])) (fCons (fOpn bTuple (fCons (fFrz (fLcW (fSeqW (fTup (fCons (fVar 5) (fCons (fOp2 oAdd (fVar 5) (fVar 5)) (fCons (fOp2 oAdd (fVar 5) (fVar 3)) (fNil)))))) [10] (gN 10) (fYes) (fTup (fCons (fC (.str [114, 111, 119])) (fCons (fTup (fCons (fVar 7) (fCons (fTup (fCons (fC (.str [119, 111, 114, 100])) (fCons (fVar 10) (fNil)))) (fNil)))) (fNil)))))) (fNil))) (fNil)))) (fNil)))) (sSeq (sEx (fM "list" mApp (fVar 9) (fCons (fTup (fCons (fC (.str [112, 105, 99, 107])) (fCons (fTup (fCons (fTup (fCons (fC (.str [119, 111, 114, 100])) (fCons (fVar 3) (fNil)))) (fCons (fTup (fCons (fC (.str [119, 111, 114, 100])) (fCons (fOp2 oAdd (fVar 3) (fVar 4)) (fNil)))) (fCons (fTup (fCons (fC (.str [119, 111, 114, 100])) (fCons (fVar 4) (fNil)))) (fCons (fTup (fCons (fC (.str [119, 111, 114, 100])) (fCons (fOp2 oAdd (fOp2 oAdd (fVar 3) (fVar 4)) (fVar 5)) (fNil)))) (fNil)))))) (fNil)))) (fNil)))) (sSeq (sEx (fM "list" mApp (fVar 9) (fCons (fTup (fCons (fC (.str [109, 97, 110, 121])) (fCons (fTup (fCons (fC (.str [114, 117, 110])) (fCons (fOp2 oAdd (fVar 3) (fVar 4)) (fCons (fC (.int 2)) (fCons (fC (.int 2)) (fNil)))))) (fCons (fOp2 oIx (fLst (fCons (fC (.str [])) (fCons (fVar 4) (fNil)))) (fCall f_L_draw [] (fCons (fVar 0) (fCons (fVar 1) (fCons (fC (.int 2)) (fNil)))))) (fNil))))) (fNil)))) (sSeq (sEx (fM "list" mApp (fVar 9) (fCons (fTup (fCons (fC (.str [109, 97, 110, 121])) (fCons (fTup (fCons (fC (.str [114, 111, 119])) (fCons (fTup (fCons (fTup (fCons (fC (.str [114, 117, 110])) (fCons (fOp2 oAdd (fVar 3) (fVar 4)) (fCons (fC (.int 1)) (fCons (fC (.int 4)) (fNil)))))) (fCons (fTup (fCons (fC (.str [119, 111, 114, 100])) (fCons (fVar 5) (fNil)))) (fNil)))) (fNil)))) (fCons (fC (.str [])) (fNil))))) (fNil)))) (sSeq (sEx (fM "list" mApp (fVar 9) (fCons (fTup (fCons (fC (.str [112, 105, 99, 107])) (fCons (fTup (fCons (fVar 8) (fCons (fTup (fCons (fC (.str [114, 111, 119])) (fCons (fTup (fCons (fVar 8) (fCons (fTup (fCons (fC (.str [119, 111, 114, 100])) (fCons (fVar 4) (fNil)))) (fNil)))) (fNil)))) (fNil)))) (fNil)))) (fNil)))) (sRet (fOp2 oIx (fVar 9) (fCall f_L_draw [] (fCons (fVar 0) (fCons (fVar 1) (fCons (fC (.int 8)) (fNil))))))))))))))))))
/-- _law_leaf: _law_script, _law_at, _law_pool_here, _law_signs, _law_least -/
noncomputable def f_L_leaf : Fn := runB 3 5 (sSeq (sIf (fT (fOp2 oEq (fCall f_L_draw [] (fCons (fVar 0) (fCons (fVar 1) (fCons (fC (.int 3)) (fNil))))) (fC (.int 0)))) (sRet (fCall f_L_tangled [] (fCons (fVar 0) (fCons (fVar 1) (fCons (fVar 2) (fNil)))))) (sNil)) (sSeq (sSet 3 (fCall f_L_taken [] (fCons (fVar 2) (fCons (fOp2 oAdd (fC (.int 1)) (fCall f_L_draw [] (fCons (fVar 0) (fCons (fVar 1) (fCons (fC (.int 3)) (fNil)))))) (fNil))))) (sSeq (sIf (fT (fOp2 oEq (fCall f_L_draw [] (fCons (fVar 0) (fCons (fVar 1) (fCons (fC (.int 2)) (fNil))))) (fC (.int 0)))) (sRet (fTup (fCons (fC (.str [119, 111, 114, 100])) (fCons (fVar 3) (fNil))))) (sNil)) (sSeq (sSet 4 (fCall f_L_draw [] (fCons (fVar 0) (fCons (fVar 1) (fCons (fC (.int 3)) (fNil)))))) (sRet (fTup (fCons (fC (.str [114, 117, 110])) (fCons (fVar 3) (fCons (fVar 4) (fCons (fOpn bMax2 (fCons (fC (.int 1)) (fCons (fOp2 oAdd (fVar 4) (fCall f_L_draw [] (fCons (fVar 0) (fCons (fVar 1) (fCons (fC (.int 4)) (fNil)))))) (fNil)))) (fNil)))))))))))
/-- _law_opened: _law_script, _law_at, _law_pool_here, _law_deep, _law_room -/
noncomputable def b_L_opened (T : Nat → Fn) : Fn := runB 5 5 (sRet (fTup (fCons (fC (.str [114, 111, 119])) (fCons (fTup (fCons (fTup (fCons (fC (.str [119, 111, 114, 100])) (fCons (fCall f_L_taken [] (fCons (fVar 2) (fCons (fC (.int 1)) (fNil)))) (fNil)))) (fCons (fCall (T 1) [] (fCons (fVar 0) (fCons (fVar 1) (fCons (fVar 2) (fCons (fOp2 oSub (fVar 3) (fC (.int 1))) (fCons (fVar 4) (fNil))))))) (fNil)))) (fNil)))))
/-- _law_clear: _law_script, _law_at, _law_pool_here, _law_deep, _law_room, _law_way, _law_many, _law_k, _law_parts, _law_between -/
noncomputable def b_L_clear (T : Nat → Fn) : Fn := runB 5 10 (sSeq (sPut (fVar 4) (fC (.int 0)) (fOp2 oSub (fOp2 oIx (fVar 4) (fC (.int 0))) (fC (.int 1)))) (sSeq (sSet 5 (fCall f_L_draw [] (fCons (fVar 0) (fCons (fVar 1) (fCons (fC (.int 8)) (fNil)))))) (sSeq (sIf (fOr (fT (fOp2 oLt (fVar 3) (fC (.int 2)))) (fOr (fT (fOp2 oLt (fOp2 oIx (fVar 4) (fC (.int 0))) (fC (.int 2)))) (fT (fOp2 oLt (fVar 5) (fC (.int 2)))))) (sRet (fCall f_L_leaf [] (fCons (fVar 0) (fCons (fVar 1) (fCons (fVar 2) (fNil)))))) (sNil)) (sSeq (sIf (fT (fOp2 oLt (fVar 5) (fC (.int 4)))) (sSeq (sSet 6 (fCall f_L_draw [] (fCons (fVar 0) (fCons (fVar 1) (fCons (fC (.int 4)) (fNil)))))) (sRet (fTup (fCons (fC (.str [114, 111, 119])) (fCons (fOpn bTuple (fCons (fFrz (fLcW (fWk (fRng1 (fCons (fVar 6) (fNil)))) [7] (gN 7) (fYes) (fCall (T 1) [] (fCons (fVar 0) (fCons (fVar 1) (fCons (fVar 2) (fCons (fOp2 oSub (fVar 3) (fC (.int 1))) (fCons (fVar 4) (fNil))))))))) (fNil))) (fNil)))))) (sNil)) (sSeq (sIf (fT (fOp2 oLt (fVar 5) (fC (.int 6)))) (sSeq (sSet 8 (fLstC (fCons (fCall (T 1) [] (fCons (fVar 0) (fCons (fVar 1) (fCons (fVar 2) (fCons (fOp2 oSub (fVar 3) (fC (.int 1))) (fCons (fVar 4) (fNil))))))) (fNil)))) (sSeq (sForW (fWk (fRng1 (fCons (fOp2 oAdd (fC (.int 1)) (fCall f_L_draw [] (fCons (fVar 0) (fCons (fVar 1) (fCons (fC (.int 2)) (fNil)))))) (fNil)))) (gN 7) (sEx (fM "list" mApp (fVar 8) (fCons (fCall (T 0) [] (fCons (fVar 0) (fCons (fVar 1) (fCons (fVar 2) (fCons (fVar 3) (fCons (fVar 4) (fNil))))))) (fNil))))) (sRet (fTup (fCons (fC (.str [112, 105, 99, 107])) (fCons (fOpn bTuple (fCons (fVar 8) (fNil))) (fNil))))))) (sNil)) (sSeq (sSet 9 (fCall f_L_taken [] (fCons (fVar 2) (fCons (fCall f_L_draw [] (fCons (fVar 0) (fCons (fVar 1) (fCons (fC (.int 3)) (fNil))))) (fNil))))) (sSeq (sIf (fAnd (fT (fOp2 oNe (fVar 9) (fC (.str [])))) (fT (fOp2 oEq (fVar 5) (fC (.int 6))))) (sRet (fTup (fCons (fC (.str [109, 97, 110, 121])) (fCons (fTup (fCons (fC (.str [114, 117, 110])) (fCons (fCall f_L_taken [] (fCons (fVar 2) (fCons (fC (.int 2)) (fNil)))) (fCons (fC (.int 1)) (fCons (fOp2 oAdd (fC (.int 1)) (fCall f_L_draw [] (fCons (fVar 0) (fCons (fVar 1) (fCons (fC (.int 4)) (fNil)))))) (fNil)))))) (fCons (fVar 9) (fNil)))))) (sNil)) (sRet (fTup (fCons (fC (.str [109, 97, 110, 121])) (fCons (fCall (T 0) [] (fCons (fVar 0) (fCons (fVar 1) (fCons (fVar 2) (fCons (fVar 3) (fCons (fVar 4) (fNil))))))) (fCons (fVar 9) (fNil)))))))))))))
noncomputable def R_0 : Nat → Nat → Fn
  | 0, _ => fun _ _ => none
  | n + 1, i => match i with
    | 0 => b_L_opened (R_0 n)
    | 1 => b_L_clear (R_0 n)
    | _ => fun _ _ => none
noncomputable abbrev f_L_opened : Fn := R_0 20 0
noncomputable abbrev f_L_clear : Fn := R_0 20 1
/-- Many.__init__: self, part, between -/
noncomputable def f_Many_init : Fn := runB 3 3 (sSeq (sFld ct "part" (fVar 0) (fVar 1)) (sFld ct "between" (fVar 0) (fVar 2)))
/-- Word.__init__: self, text -/
noncomputable def f_Word_init : Fn := runB 2 2 (sFld ct "text" (fVar 0) (fVar 1))
/-- Run.__init__: self, signs, least, most -/
noncomputable def f_Run_init : Fn := runB 4 4 (sSeq (sFld ct "signs" (fVar 0) (fVar 1)) (sSeq (sFld ct "least" (fVar 0) (fVar 2)) (sFld ct "most" (fVar 0) (fVar 3))))
/-- Row.__init__: self, parts -/
noncomputable def f_Row_init : Fn := runB 2 2 (sSeq (sFld ct "parts" (fVar 0) (fLst (fNil))) (sIf (fT (fOp2 oNotN (fVar 1) (fC .non))) (sFld ct "parts" (fVar 0) (fOpn bList (fCons (fVar 1) (fNil)))) (sNil)))
/-- Pick.__init__: self, parts -/
noncomputable def f_Pick_init : Fn := runB 2 2 (sFld ct "parts" (fVar 0) (fOpn bList (fCons (fVar 1) (fNil))))
/-- _law_real: _law_kind, _law_part -/
noncomputable def b_L_real (T : Nat → Fn) : Fn := runB 1 2 (sSeq (sIf (fT (fOp2 oEq (fOp2 oIx (fVar 0) (fC (.int 0))) (fC (.str [119, 111, 114, 100])))) (sRet (fFrz (fMk "Word" f_Word_init [] (fCons (fOp2 oIx (fVar 0) (fC (.int 1))) (fNil))))) (sNil)) (sSeq (sIf (fT (fOp2 oEq (fOp2 oIx (fVar 0) (fC (.int 0))) (fC (.str [114, 117, 110])))) (sRet (fFrz (fMk "Run" f_Run_init [] (fCons (fOp2 oIx (fVar 0) (fC (.int 1))) (fCons (fOp2 oIx (fVar 0) (fC (.int 2))) (fCons (fOp2 oIx (fVar 0) (fC (.int 3))) (fNil))))))) (sNil)) (sSeq (sIf (fT (fOp2 oEq (fOp2 oIx (fVar 0) (fC (.int 0))) (fC (.str [114, 111, 119])))) (sRet (fFrz (fMk "Row" f_Row_init [] (fCons (fFrz (fLcW (fSeqW (fOp2 oIx (fVar 0) (fC (.int 1)))) [1] (gN 1) (fYes) (fCall (T 0) [] (fCons (fVar 1) (fNil))))) (fNil))))) (sNil)) (sSeq (sIf (fT (fOp2 oEq (fOp2 oIx (fVar 0) (fC (.int 0))) (fC (.str [112, 105, 99, 107])))) (sRet (fFrz (fMk "Pick" f_Pick_init [] (fCons (fFrz (fLcW (fSeqW (fOp2 oIx (fVar 0) (fC (.int 1)))) [1] (gN 1) (fYes) (fCall (T 0) [] (fCons (fVar 1) (fNil))))) (fNil))))) (sNil)) (sRet (fFrz (fMk "Many" f_Many_init [] (fCons (fCall (T 0) [] (fCons (fOp2 oIx (fVar 0) (fC (.int 1))) (fNil))) (fCons (fOp2 oIx (fVar 0) (fC (.int 2))) (fNil))))))))))
noncomputable def R_1 : Nat → Nat → Fn
  | 0, _ => fun _ _ => none
  | n + 1, i => match i with
    | 0 => b_L_real (R_1 n)
    | _ => fun _ _ => none
noncomputable abbrev f_L_real : Fn := R_1 20 0
/-- Kind.written: self -/
noncomputable def f_Kind_written : Fn := runB 1 1 (sRet (fC (.str [])))
/-- quoted: text -/
noncomputable def f_quoted : Fn := runB 1 1 (sRet (fOp2 oAdd (fAddRep [39] [39] [39, 39] (fVar 0)) (fC (.str [39]))))
/-- Word.written: self -/
noncomputable def f_Word_written : Fn := runB 1 1 (sRet (fCall f_quoted [] (fCons (fFld ct "text" (fVar 0)) (fNil))))
/-- Run.written: self -/
noncomputable def f_Run_written : Fn := runB 1 1 (sRet (fOp2 oAdd (fOp2 oAdd (fOp2 oAdd (fOp2 oAdd (fOp2 oAdd (fOp2 oAdd (fC (.str [60])) (fCall f_quoted [] (fCons (fFld ct "signs" (fVar 0)) (fNil)))) (fC (.str [32]))) (fOpn bStr (fCons (fFld ct "least" (fVar 0)) (fNil)))) (fC (.str [32]))) (fOpn bStr (fCons (fFld ct "most" (fVar 0)) (fNil)))) (fC (.str [62]))))
/-- Kind.item: self -/
noncomputable def b_Kind_item (T : Nat → Fn) : Fn := runB 1 1 (sRet (fMeth "written" [("Kind", f_Kind_written, []), ("Word", f_Word_written, []), ("Run", f_Run_written, []), ("Row", (T 2), []), ("Pick", (T 4), []), ("Many", (T 7), [])] (fVar 0) fNil))
/-- Kind.alt: self -/
noncomputable def b_Kind_alt (T : Nat → Fn) : Fn := runB 1 1 (sRet (fMeth "written" [("Kind", f_Kind_written, []), ("Word", f_Word_written, []), ("Run", f_Run_written, []), ("Row", (T 2), []), ("Pick", (T 4), []), ("Many", (T 7), [])] (fVar 0) fNil))
/-- Row.written: self, found, part -/
noncomputable def b_Row_written (T : Nat → Fn) : Fn := runB 1 3 (sSeq (sSet 1 (fM "str" mJoin (fC (.str [32])) (fCons (fFrz (fLcW (fSeqW (fFld ct "parts" (fVar 0))) [2] (gN 2) (fYes) (fMeth "item" [("Kind", (T 0), []), ("Word", (T 0), []), ("Run", (T 0), []), ("Row", (T 3), []), ("Pick", (T 5), []), ("Many", (T 0), [])] (fVar 2) fNil))) (fNil)))) (sSeq (sIf (fT (fOp2 oLt (fOpn bLen (fCons (fFld ct "parts" (fVar 0)) (fNil))) (fC (.int 2)))) (sRet (fOp2 oAdd (fOp2 oAdd (fC (.str [40])) (fVar 1)) (fC (.str [41])))) (sNil)) (sRet (fVar 1))))
/-- Row.item: self -/
noncomputable def b_Row_item (T : Nat → Fn) : Fn := runB 1 1 (sSeq (sIf (fT (fOp2 oLt (fOpn bLen (fCons (fFld ct "parts" (fVar 0)) (fNil))) (fC (.int 2)))) (sRet (fMeth "written" [("Kind", f_Kind_written, []), ("Word", f_Word_written, []), ("Run", f_Run_written, []), ("Row", (T 2), []), ("Pick", (T 4), []), ("Many", (T 7), [])] (fVar 0) fNil)) (sNil)) (sRet (fOp2 oAdd (fOp2 oAdd (fC (.str [40])) (fMeth "written" [("Kind", f_Kind_written, []), ("Word", f_Word_written, []), ("Run", f_Run_written, []), ("Row", (T 2), []), ("Pick", (T 4), []), ("Many", (T 7), [])] (fVar 0) fNil)) (fC (.str [41])))))
/-- Pick.written: self, part -/
noncomputable def b_Pick_written (T : Nat → Fn) : Fn := runB 1 2 (sRet (fM "str" mJoin (fC (.str [32, 124, 32])) (fCons (fFrz (fLcW (fSeqW (fFld ct "parts" (fVar 0))) [1] (gN 1) (fYes) (fMeth "alt" [("Kind", (T 1), []), ("Word", (T 1), []), ("Run", (T 1), []), ("Row", (T 1), []), ("Pick", (T 6), []), ("Many", (T 1), [])] (fVar 1) fNil))) (fNil))))
/-- Pick.item: self -/
noncomputable def b_Pick_item (T : Nat → Fn) : Fn := runB 1 1 (sRet (fOp2 oAdd (fOp2 oAdd (fC (.str [40])) (fMeth "written" [("Kind", f_Kind_written, []), ("Word", f_Word_written, []), ("Run", f_Run_written, []), ("Row", (T 2), []), ("Pick", (T 4), []), ("Many", (T 7), [])] (fVar 0) fNil)) (fC (.str [41]))))
/-- Pick.alt: self -/
noncomputable def b_Pick_alt (T : Nat → Fn) : Fn := runB 1 1 (sRet (fOp2 oAdd (fOp2 oAdd (fC (.str [40])) (fMeth "written" [("Kind", f_Kind_written, []), ("Word", f_Word_written, []), ("Run", f_Run_written, []), ("Row", (T 2), []), ("Pick", (T 4), []), ("Many", (T 7), [])] (fVar 0) fNil)) (fC (.str [41]))))
/-- Many.written: self -/
noncomputable def b_Many_written (T : Nat → Fn) : Fn := runB 1 1 (sSeq (sIf (fT (fOp2 oEq (fFld ct "between" (fVar 0)) (fC (.str [])))) (sRet (fOp2 oAdd (fOp2 oAdd (fC (.str [123])) (fMeth "written" [("Kind", f_Kind_written, []), ("Word", f_Word_written, []), ("Run", f_Run_written, []), ("Row", (T 2), []), ("Pick", (T 4), []), ("Many", (T 7), [])] (fFld ct "part" (fVar 0)) fNil)) (fC (.str [125])))) (sNil)) (sRet (fOp2 oAdd (fOp2 oAdd (fOp2 oAdd (fOp2 oAdd (fC (.str [123])) (fMeth "written" [("Kind", f_Kind_written, []), ("Word", f_Word_written, []), ("Run", f_Run_written, []), ("Row", (T 2), []), ("Pick", (T 4), []), ("Many", (T 7), [])] (fFld ct "part" (fVar 0)) fNil)) (fC (.str [32, 47, 32]))) (fCall f_quoted [] (fCons (fFld ct "between" (fVar 0)) (fNil)))) (fC (.str [125])))))
noncomputable def R_2 : Nat → Nat → Fn
  | 0, _ => fun _ _ => none
  | n + 1, i => match i with
    | 0 => b_Kind_item (R_2 n)
    | 1 => b_Kind_alt (R_2 n)
    | 2 => b_Row_written (R_2 n)
    | 3 => b_Row_item (R_2 n)
    | 4 => b_Pick_written (R_2 n)
    | 5 => b_Pick_item (R_2 n)
    | 6 => b_Pick_alt (R_2 n)
    | 7 => b_Many_written (R_2 n)
    | _ => fun _ _ => none
noncomputable abbrev f_Kind_item : Fn := R_2 20 0
noncomputable abbrev f_Kind_alt : Fn := R_2 20 1
noncomputable abbrev f_Row_written : Fn := R_2 20 2
noncomputable abbrev f_Row_item : Fn := R_2 20 3
noncomputable abbrev f_Pick_written : Fn := R_2 20 4
noncomputable abbrev f_Pick_item : Fn := R_2 20 5
noncomputable abbrev f_Pick_alt : Fn := R_2 20 6
noncomputable abbrev f_Many_written : Fn := R_2 20 7
/-- Laying.__init__: self -/
noncomputable def f_Laying_init : Fn := runB 1 1 (sFld ct "heap" (fVar 0) (fLstC (fNil)))
/-- Laying.lay: self, row -/
noncomputable def f_Laying_lay : Fn := runB 2 2 (sSeq (sEx (fM "list" mApp (fFld ct "heap" (fVar 0)) (fCons (fVar 1) (fNil)))) (sRet (fOp2 oSub (fOpn bLen (fCons (fFld ct "heap" (fVar 0)) (fNil))) (fC (.int 1)))))
/-- Laying.lay_signs: self, text, sign -/
noncomputable def f_Laying_lay_signs : Fn := runB 2 3 (sForW (fSeqW (fVar 1)) (gN 2) (sEx (fMeth "lay" [("Laying", f_Laying_lay, [])] (fVar 0) (fCons (fTup (fCons (fC (.str [115, 105, 103, 110])) (fCons (fVar 2) (fNil)))) (fNil)))))
/-- Laying.lay_run: self, kind, turn, doors, behind, door -/
noncomputable def f_Laying_lay_run : Fn := runB 2 6 (sSeq (sEx (fMeth "lay" [("Laying", f_Laying_lay, [])] (fVar 0) (fCons (fTup (fCons (fC (.str [109, 97, 114, 107])) (fCons (fC (.str [114, 117, 110])) (fCons (fC (.int 0)) (fNil))))) (fNil)))) (sSeq (sForW (fWk (fRng1 (fCons (fFld ct "least" (fVar 1)) (fNil)))) (gN 2) (sEx (fMeth "lay" [("Laying", f_Laying_lay, [])] (fVar 0) (fCons (fTup (fCons (fC (.str [115, 105, 103, 110])) (fCons (fFld ct "signs" (fVar 1)) (fNil)))) (fNil))))) (sSeq (sSet 3 (fLstC (fNil))) (sSeq (sForW (fWk (fRng1 (fCons (fOp2 oSub (fFld ct "most" (fVar 1)) (fFld ct "least" (fVar 1))) (fNil)))) (gN 2) (sSeq (sEx (fM "list" mApp (fVar 3) (fCons (fMeth "lay" [("Laying", f_Laying_lay, [])] (fVar 0) (fCons (fTup (fCons (fC (.str [101, 110, 100])) (fNil))) (fNil))) (fNil)))) (sEx (fMeth "lay" [("Laying", f_Laying_lay, [])] (fVar 0) (fCons (fTup (fCons (fC (.str [115, 105, 103, 110])) (fCons (fFld ct "signs" (fVar 1)) (fNil)))) (fNil)))))) (sSeq (sSet 4 (fMeth "lay" [("Laying", f_Laying_lay, [])] (fVar 0) (fCons (fTup (fCons (fC (.str [109, 97, 114, 107])) (fCons (fC (.str [114, 117, 110])) (fCons (fC (.int 1)) (fNil))))) (fNil)))) (sForW (fSeqW (fVar 3)) (gN 5) (sPut (fFld ct "heap" (fVar 0)) (fVar 5) (fTup (fCons (fC (.str [98, 111, 116, 104])) (fCons (fOp2 oAdd (fVar 5) (fC (.int 1))) (fCons (fVar 4) (fNil))))))))))))
/-- Laying.lay_kind: self, kind, part -/
noncomputable def b_Laying_lay_kind (T : Nat → Fn) : Fn := runB 2 3 (sIf (fT (fIsi is_Word (fVar 1))) (sEx (fMeth "lay_signs" [("Laying", f_Laying_lay_signs, [])] (fVar 0) (fCons (fFld ct "text" (fVar 1)) (fNil)))) (sIf (fT (fIsi is_Run (fVar 1))) (sEx (fMeth "lay_run" [("Laying", f_Laying_lay_run, [])] (fVar 0) (fCons (fVar 1) (fNil)))) (sIf (fT (fIsi is_Row (fVar 1))) (sForW (fSeqW (fFld ct "parts" (fVar 1))) (gN 2) (sEx (fMeth "lay_kind" [("Laying", (T 0), [])] (fVar 0) (fCons (fVar 2) (fNil))))) (sIf (fT (fIsi is_Pick (fVar 1))) (sEx (fMeth "lay_pick" [("Laying", (T 1), [])] (fVar 0) (fCons (fFld ct "parts" (fVar 1)) (fNil)))) (sIf (fT (fIsi is_Many (fVar 1))) (sEx (fMeth "lay_many" [("Laying", (T 2), [])] (fVar 0) (fCons (fVar 1) (fNil)))) (sNil))))))
/-- Laying.lay_pick: self, parts, doors, place, part, door -/
noncomputable def b_Laying_lay_pick (T : Nat → Fn) : Fn := runB 2 6 (sSeq (sSet 2 (fLstC (fNil))) (sSeq (sForW (fEnumM (fCons (fVar 1) (fNil))) (gT (gC (gN 3) (gC (gN 4) (gE)))) (sSeq (sSet 5 (fMeth "lay" [("Laying", f_Laying_lay, [])] (fVar 0) (fCons (fTup (fCons (fC (.str [101, 110, 100])) (fNil))) (fNil)))) (sSeq (sEx (fMeth "lay" [("Laying", f_Laying_lay, [])] (fVar 0) (fCons (fTup (fCons (fC (.str [109, 97, 114, 107])) (fCons (fC (.str [112, 105, 99, 107])) (fCons (fVar 3) (fNil))))) (fNil)))) (sSeq (sEx (fMeth "lay_kind" [("Laying", (T 0), [])] (fVar 0) (fCons (fVar 4) (fNil)))) (sSeq (sEx (fM "list" mApp (fVar 2) (fCons (fMeth "lay" [("Laying", f_Laying_lay, [])] (fVar 0) (fCons (fTup (fCons (fC (.str [101, 110, 100])) (fNil))) (fNil))) (fNil)))) (sSeq (sPut (fFld ct "heap" (fVar 0)) (fVar 5) (fTup (fCons (fC (.str [98, 111, 116, 104])) (fCons (fOp2 oAdd (fVar 5) (fC (.int 1))) (fCons (fOpn bLen (fCons (fFld ct "heap" (fVar 0)) (fNil))) (fNil)))))) (sIf (fT (fOp2 oEq (fVar 3) (fOp2 oSub (fOpn bLen (fCons (fVar 1) (fNil))) (fC (.int 1))))) (sPut (fFld ct "heap" (fVar 0)) (fVar 5) (fTup (fCons (fC (.str [103, 111])) (fCons (fOp2 oAdd (fVar 5) (fC (.int 1))) (fNil))))) (sNil)))))))) (sForW (fSeqW (fVar 2)) (gN 5) (sPut (fFld ct "heap" (fVar 0)) (fVar 5) (fTup (fCons (fC (.str [103, 111])) (fCons (fOpn bLen (fCons (fFld ct "heap" (fVar 0)) (fNil))) (fNil))))))))
/-- Laying.lay_many: self, kind, door, first, again, behind -/
noncomputable def b_Laying_lay_many (T : Nat → Fn) : Fn := runB 2 6 (sSeq (sSet 2 (fMeth "lay" [("Laying", f_Laying_lay, [])] (fVar 0) (fCons (fTup (fCons (fC (.str [101, 110, 100])) (fNil))) (fNil)))) (sSeq (sSet 3 (fMeth "lay" [("Laying", f_Laying_lay, [])] (fVar 0) (fCons (fTup (fCons (fC (.str [109, 97, 114, 107])) (fCons (fC (.str [116, 104, 105, 110, 103])) (fCons (fC (.int 0)) (fNil))))) (fNil)))) (sSeq (sEx (fMeth "lay_kind" [("Laying", (T 0), [])] (fVar 0) (fCons (fFld ct "part" (fVar 1)) (fNil)))) (sSeq (sSet 4 (fMeth "lay" [("Laying", f_Laying_lay, [])] (fVar 0) (fCons (fTup (fCons (fC (.str [101, 110, 100])) (fNil))) (fNil)))) (sSeq (sEx (fMeth "lay_signs" [("Laying", f_Laying_lay_signs, [])] (fVar 0) (fCons (fFld ct "between" (fVar 1)) (fNil)))) (sSeq (sEx (fMeth "lay" [("Laying", f_Laying_lay, [])] (fVar 0) (fCons (fTup (fCons (fC (.str [103, 111])) (fCons (fVar 3) (fNil)))) (fNil)))) (sSeq (sSet 5 (fMeth "lay" [("Laying", f_Laying_lay, [])] (fVar 0) (fCons (fTup (fCons (fC (.str [109, 97, 114, 107])) (fCons (fC (.str [111, 118, 101, 114])) (fCons (fC (.int 0)) (fNil))))) (fNil)))) (sSeq (sPut (fFld ct "heap" (fVar 0)) (fVar 2) (fTup (fCons (fC (.str [98, 111, 116, 104])) (fCons (fVar 3) (fCons (fVar 5) (fNil)))))) (sPut (fFld ct "heap" (fVar 0)) (fVar 4) (fTup (fCons (fC (.str [98, 111, 116, 104])) (fCons (fOp2 oAdd (fVar 4) (fC (.int 1))) (fCons (fVar 5) (fNil))))))))))))))
noncomputable def R_3 : Nat → Nat → Fn
  | 0, _ => fun _ _ => none
  | n + 1, i => match i with
    | 0 => b_Laying_lay_kind (R_3 n)
    | 1 => b_Laying_lay_pick (R_3 n)
    | 2 => b_Laying_lay_many (R_3 n)
    | _ => fun _ _ => none
noncomputable abbrev f_Laying_lay_kind : Fn := R_3 20 0
noncomputable abbrev f_Laying_lay_pick : Fn := R_3 20 1
noncomputable abbrev f_Laying_lay_many : Fn := R_3 20 2
/-- rows_of: kind, laying -/
noncomputable def f_rows_of : Fn := runB 1 2 (sSeq (sSet 1 (fMk "Laying" f_Laying_init [] fNil)) (sSeq (sEx (fMeth "lay_kind" [("Laying", f_Laying_lay_kind, [])] (fVar 1) (fCons (fVar 0) (fNil)))) (sSeq (sEx (fMeth "lay" [("Laying", f_Laying_lay, [])] (fVar 1) (fCons (fTup (fCons (fC (.str [101, 110, 100])) (fNil))) (fNil)))) (sRet (fFld ct "heap" (fVar 1))))))
/-- _law_pool: _law_script, _law_at, _law_every, _law_first, _law_step, _law_k -/
noncomputable def f_L_pool : Fn := runB 2 6 (sSeq (sSet 2 (fC (.str [32, 33, 34, 35, 36, 38, 39, 40, 41, 42, 43, 44, 45, 46, 47, 48, 49, 50, 51, 52, 53, 54, 55, 56, 57, 58, 59, 60, 61, 62, 63, 64, 65, 66, 67, 68, 69, 70, 71, 72, 73, 74, 75, 76, 77, 78, 79, 80, 81, 82, 83, 84, 85, 86, 87, 88, 89, 90, 91, 92, 93, 94, 95, 96, 97, 98, 99, 100, 101, 102, 103, 104, 105, 106, 107, 108, 109, 110, 111, 112, 113, 114, 115, 116, 117, 118, 119, 120, 121, 122, 123, 124, 125, 126, 10]))) (sSeq (sSet 3 (fCall f_L_draw [] (fCons (fVar 0) (fCons (fVar 1) (fCons (fC (.int 95)) (fNil)))))) (sSeq (sSet 4 (fOp2 oIx (fLst (fCons (fC (.int 1)) (fCons (fC (.int 2)) (fCons (fC (.int 3)) (fCons (fC (.int 7)) (fCons (fC (.int 23)) (fCons (fC (.int 44)) (fCons (fC (.int 61)) (fCons (fC (.int 94)) (fNil)))))))))) (fCall f_L_draw [] (fCons (fVar 0) (fCons (fVar 1) (fCons (fC (.int 8)) (fNil))))))) (sRet (fLstC (fCons (fM "str" mJoin (fC (.str [])) (fCons (fFrz (fLcW (fWk (fRng1 (fCons (fC (.int 95)) (fNil)))) [5] (gN 5) (fYes) (fOp2 oIx (fVar 2) (fOp2 oMod (fOp2 oAdd (fVar 3) (fOp2 oMulI (fVar 4) (fVar 5))) (fC (.int 95)))))) (fNil))) (fNil)))))))
/-- _law_is_number: _law_thing, _law_many -/
noncomputable def f_L_is_number : Fn := runB 2 2 (sRet (fAndV (fIsi is_int (fVar 0)) (fAndV (fNotV (fIsi is_bool (fVar 0))) (fCh oLe oLt (fC (.int 0)) (fVar 0) (fVar 1)))))
/-- _law_is_row: _law_row, _law_many -/
noncomputable def f_L_is_row : Fn := runB 2 2 (sSeq (sIf (fOr (fNot (fT (fIsi is_tuple (fVar 0)))) (fOr (fT (fOp2 oEq (fVar 0) (fTup (fNil)))) (fNot (fT (fIsi is_str (fOp2 oIx (fVar 0) (fC (.int 0)))))))) (sRet (fC (.bl false))) (sNil)) (sSeq (sIf (fT (fOp2 oEq (fOp2 oIx (fVar 0) (fC (.int 0))) (fC (.str [115, 105, 103, 110])))) (sRet (fAndV (fOp2 oEq (fOpn bLen (fCons (fVar 0) (fNil))) (fC (.int 2))) (fIsi is_str (fOp2 oIx (fVar 0) (fC (.int 1)))))) (sNil)) (sSeq (sIf (fT (fOp2 oEq (fOp2 oIx (fVar 0) (fC (.int 0))) (fC (.str [103, 111])))) (sRet (fAndV (fOp2 oEq (fOpn bLen (fCons (fVar 0) (fNil))) (fC (.int 2))) (fCall f_L_is_number [] (fCons (fOp2 oIx (fVar 0) (fC (.int 1))) (fCons (fVar 1) (fNil)))))) (sNil)) (sSeq (sIf (fT (fOp2 oEq (fOp2 oIx (fVar 0) (fC (.int 0))) (fC (.str [98, 111, 116, 104])))) (sRet (fAndV (fOp2 oEq (fOpn bLen (fCons (fVar 0) (fNil))) (fC (.int 3))) (fAndV (fCall f_L_is_number [] (fCons (fOp2 oIx (fVar 0) (fC (.int 1))) (fCons (fVar 1) (fNil)))) (fCall f_L_is_number [] (fCons (fOp2 oIx (fVar 0) (fC (.int 2))) (fCons (fVar 1) (fNil))))))) (sNil)) (sSeq (sIf (fT (fOp2 oEq (fOp2 oIx (fVar 0) (fC (.int 0))) (fC (.str [109, 97, 114, 107])))) (sRet (fOp2 oEq (fOpn bLen (fCons (fVar 0) (fNil))) (fC (.int 3)))) (sNil)) (sRet (fOp2 oEq (fVar 0) (fTup (fCons (fC (.str [101, 110, 100])) (fNil))))))))))
/-- law: _law_script, _law_at, _law_turn, _law_kind, _law_real_here, _law_ahead, _law_rows, _law_row, _law_kept -/
noncomputable def f_law : Fn := runB 1 9 (sSeq (sSet 1 (fLstC (fCons (fC (.int 0)) (fNil)))) (sSeq (sForW (fWk (fRng1 (fCons (fC (.int 3)) (fNil)))) (gN 2) (sSeq (sSet 3 (fCall f_L_clear [] (fCons (fVar 0) (fCons (fVar 1) (fCons (fCall f_L_pool [] (fCons (fVar 0) (fCons (fVar 1) (fNil)))) (fCons (fC (.int 3)) (fCons (fLstC (fCons (fOp2 oAdd (fC (.int 4)) (fCall f_L_draw [] (fCons (fVar 0) (fCons (fVar 1) (fCons (fC (.int 4)) (fNil)))))) (fNil))) (fNil)))))))) (sSeq (sSet 4 (fCall f_L_real [] (fCons (fVar 3) (fNil)))) (sSeq (sSet 5 (fMeth "written" [("Kind", f_Kind_written, []), ("Word", f_Word_written, []), ("Run", f_Run_written, []), ("Row", f_Row_written, []), ("Pick", f_Pick_written, []), ("Many", f_Many_written, [])] (fVar 4) fNil)) (sSeq (sSet 6 (fCall f_rows_of [] (fCons (fVar 4) (fNil)))) (sSeq (sIf (fOr (fNot (fT (fIsi is_list (fVar 6)))) (fNot (fT (fCh oLe oLe (fC (.int 1)) (fOpn bLen (fCons (fVar 6) (fNil))) (fC (.int 2000)))))) (sRet (fC (.bl false))) (sNil)) (sSeq (sIf (fNot (fT (fOpn bAll (fCons (fFrz (fLcW (fSeqW (fVar 6)) [7] (gN 7) (fYes) (fCall f_L_is_row [] (fCons (fVar 7) (fCons (fOpn bLen (fCons (fVar 6) (fNil))) (fNil)))))) (fNil))))) (sRet (fC (.bl false))) (sNil)) (sSeq (sSet 8 (fOpn bList (fCons (fVar 6) (fNil)))) (sSeq (sEx (fM "list" mApp (fVar 6) (fCons (fTup (fCons (fC (.str [101, 110, 100])) (fNil))) (fNil)))) (sIf (fOr (fT (fOp2 oNe (fCall f_rows_of [] (fCons (fVar 4) (fNil))) (fVar 8))) (fT (fOp2 oNe (fMeth "written" [("Kind", f_Kind_written, []), ("Word", f_Word_written, []), ("Run", f_Run_written, []), ("Row", f_Row_written, []), ("Pick", f_Pick_written, []), ("Many", f_Many_written, [])] (fVar 4) fNil) (fVar 5)))) (sRet (fC (.bl false))) (sNil))))))))))) (sRet (fC (.bl true)))))
end Y
namespace Y
open PySem PySem.Spec PyProof.Rows L2 Z
noncomputable abbrev R_lay := R_3
noncomputable abbrev R_wr := R_2
noncomputable abbrev R_real := R_1
noncomputable abbrev R_clr := R_0
/-! ## draws: cell 0 is the place -/
abbrev atc (b : Int) : Cell := .lst [.d (.int b)]
@[simp] theorem ixN10 : ixN 1 0 = some 0 := rfl
@[simp] theorem gc_at (b b' : Int) (μ t : Mu) : gcM (atc b :: μ) (atc b' :: (μ ++ t)) = atc b' :: μ := gc_set (atc b :: μ) t 0 (atc b') rfl
@[simp] theorem gc_at0 (b b' : Int) (μ : Mu) : gcM (atc b :: μ) (atc b' :: μ) = atc b' :: μ := gc_set0 (atc b :: μ) 0 (atc b') rfl
theorem drw (ns : List Int) {b many : Int} {μ : Mu} {P : Except Exn Sv → Mu → Prop} (b0 : 0 ≤ b ∧ b < 1000000000) (h0 : 0 < many) (k : ∀ v : Int, 0 ≤ v → v < many → P (.ok (.d (.int v))) (atc (b + 1) :: μ)) (hn : ns.length ≤ 63) : Ev (f_L_draw [.d (.lst (ns.map D.int)), .c 0, .d (.int many)] (atc b :: μ)) P := by
  unfold f_L_draw
  simp -dsimp [eqD_ints_nil]
  rw [oRep_c (ds := [D.int 0]) (by simp) (by split <;> decide) (by split <;> decide) (by simp)]
  obtain ⟨c, c0, e, hl⟩ : ∃ c : List Int, c ≠ [] ∧ ns.map D.int ++ List.replicate (if ns = [] then 1 else 0 : Int).toNat (D.int 0) = c.map D.int ∧ c.length ≤ 64 := by
    by_cases h : ns = []
    · exact ⟨[0], by simp, by subst h; rfl, by simp⟩
    · exact ⟨ns, h, by rw [if_neg h]; simp, by omega⟩
  have hl2 := congrArg List.length e
  simp at hl2
  simp -dsimp [e]
  refine ⟨by split <;> omega, ?_⟩
  have p0 := Int.emod_nonneg b (b := (c.length : Int)) (by have := List.length_pos_iff.2 c0; omega)
  have p1 := Int.emod_lt_of_pos b (b := (c.length : Int)) (by have := List.length_pos_iff.2 c0; omega)
  obtain ⟨x', ec, _, mc⟩ := atI_of (l := c.map D.int) p0 (by simpa using p1)
  obtain ⟨x, _, rfl⟩ := List.mem_map.1 mc
  refine ⟨by have := List.length_pos_iff.2 c0; omega, _, ec, ?_⟩
  simp -dsimp
  generalize (x % 1000000007 + 31 * b + 17) * 48271 % 2147483647 * (b * b + 16807) % 2147483629 / 4096 = z
  have h1 := Int.emod_nonneg ((x % 1000000007 + 31 * b + 17) * 48271) (b := 2147483647) (by decide)
  have h2 := Int.emod_lt_of_pos ((x % 1000000007 + 31 * b + 17) * 48271) (b := 2147483647) (by decide)
  have h3 := Int.emod_nonneg z (b := many) (by omega)
  have h4 := Int.emod_lt_of_pos z h0
  refine ⟨by omega, .inl ⟨by omega, by omega⟩, h0, ?_⟩
  exact k _ h3 h4
/-! ## kinds, as a plain type -/
abbrev wordN : List Nat := [119, 111, 114, 100]
abbrev runN : List Nat := [114, 117, 110]
abbrev rowN : List Nat := [114, 111, 119]
abbrev pickN : List Nat := [112, 105, 99, 107]
abbrev manyN : List Nat := [109, 97, 110, 121]
inductive Kd where
  | word (t : List Nat) | run (s : List Nat) (lo hi : Nat) | row (l : List Kd) | pick (l : List Kd) | many (k : Kd) (b : List Nat)
mutual
/-- the program's thing -/
def Kd.o : Kd → D
  | .word t => .ins "Word" [("text", .str t)]
  | .run s lo hi => .ins "Run" [("signs", .str s), ("least", .int lo), ("most", .int hi)]
  | .row l => .ins "Row" [("parts", .lst (Kd.os l))]
  | .pick l => .ins "Pick" [("parts", .lst (Kd.os l))]
  | .many k b => .ins "Many" [("part", Kd.o k), ("between", .str b)]
def Kd.os : List Kd → List D
  | [] => []
  | k :: r => Kd.o k :: Kd.os r
end
mutual
/-- the law's own tuple -/
def Kd.t : Kd → D
  | .word t => .tup [.str wordN, .str t]
  | .run s lo hi => .tup [.str runN, .str s, .int lo, .int hi]
  | .row l => .tup [.str rowN, .tup (Kd.ts l)]
  | .pick l => .tup [.str pickN, .tup (Kd.ts l)]
  | .many k b => .tup [.str manyN, Kd.t k, .str b]
def Kd.ts : List Kd → List D
  | [] => []
  | k :: r => Kd.t k :: Kd.ts r
end
mutual
def Kd.dep : Kd → Nat
  | .word _ => 0
  | .run _ _ _ => 0
  | .row l => Kd.deps l + 1
  | .pick l => Kd.deps l + 1
  | .many k _ => Kd.dep k + 1
def Kd.deps : List Kd → Nat
  | [] => 0
  | k :: r => max (Kd.dep k) (Kd.deps r)
end
mutual
def Kd.sz : Kd → Nat
  | .word t => 1 + t.length
  | .run s lo hi => 3 + s.length + max lo hi
  | .row l => 1 + Kd.szs l
  | .pick l => 1 + Kd.szs l
  | .many k b => 2 + Kd.sz k + b.length
def Kd.szs : List Kd → Nat
  | [] => 0
  | k :: r => 1 + Kd.sz k + Kd.szs r
end
theorem Kd.os_map : ∀ l, Kd.os l = l.map Kd.o
  | [] => rfl
  | k :: r => by simp [Kd.os, Kd.os_map r]
theorem Kd.ts_map : ∀ l, Kd.ts l = l.map Kd.t
  | [] => rfl
  | k :: r => by simp [Kd.ts, Kd.ts_map r]
theorem Kd.dep_mem : ∀ {l : List Kd} {k : Kd}, k ∈ l → k.dep ≤ Kd.deps l
  | x :: r, k, h => by
    rcases List.mem_cons.1 h with rfl | h
    · exact Nat.le_max_left _ _
    · exact Nat.le_trans (Kd.dep_mem h) (Nat.le_max_right _ _)
theorem Kd.sz_mem : ∀ {l : List Kd} {k : Kd}, k ∈ l → k.sz + 1 ≤ Kd.szs l
  | x :: r, k, h => by
    rcases List.mem_cons.1 h with rfl | h
    · simp only [Kd.szs]; omega
    · have := Kd.sz_mem h; simp only [Kd.szs]; omega
theorem Kd.szs_len : ∀ (l : List Kd), l.length ≤ Kd.szs l
  | [] => Nat.zero_le _
  | k :: r => by have := Kd.szs_len r; simp only [Kd.szs, List.length_cons]; omega
theorem Kd.szs_le {c : Nat} : ∀ {l : List Kd}, (∀ k ∈ l, k.sz ≤ c) → Kd.szs l ≤ l.length * (c + 1)
  | [], _ => by simp [Kd.szs]
  | k :: r, h => by
    have h1 := h k List.mem_cons_self
    have h2 := Kd.szs_le (l := r) fun z hz => h z (List.mem_cons_of_mem _ hz)
    simp only [Kd.szs, List.length_cons, Nat.add_mul, Nat.one_mul]; omega
theorem Kd.szs_app (l m : List Kd) : Kd.szs (l ++ m) = Kd.szs l + Kd.szs m := by
  induction l with
  | nil => simp [Kd.szs]
  | cons k r ih => simp only [List.cons_append, Kd.szs, ih]; omega
/-- what is of all kinds, the deepest last -/
theorem Kd.by_dep {P : Kd → Prop} (h : ∀ n, (∀ k, k.dep < n → P k) → ∀ k, k.dep = n → P k) : ∀ k, P k := by
  have : ∀ n, ∀ k : Kd, k.dep < n → P k := by
    intro n
    induction n with
    | zero => intro k hk; omega
    | succ n ih =>
      intro k hk
      by_cases e : k.dep = n
      · exact h n ih k e
      · exact ih k (by omega)
  exact fun k => this _ k (Nat.lt_succ_self _)
inductive Rw where
  | sign (t : List Nat) | both (a b : Nat) | go (a : Nat) | mark (t : List Nat) (f : Int) | fin
abbrev signN : List Nat := [115, 105, 103, 110]
abbrev bothN : List Nat := [98, 111, 116, 104]
abbrev goN : List Nat := [103, 111]
abbrev markN : List Nat := [109, 97, 114, 107]
abbrev endN : List Nat := [101, 110, 100]
abbrev thingN : List Nat := [116, 104, 105, 110, 103]
abbrev overN : List Nat := [111, 118, 101, 114]
def rwD : Rw → D
  | .sign t => .tup [.str signN, .str t]
  | .both a b => .tup [.str bothN, .int a, .int b]
  | .go a => .tup [.str goN, .int a]
  | .mark t f => .tup [.str markN, .str t, .int f]
  | .fin => .tup [.str endN]
/-! ## rows of a kind, laid behind one another -/
mutual
def Kd.rl : Kd → Nat
  | .word t => t.length
  | .run _ lo hi => 2 + lo + 2 * (hi - lo)
  | .row l => Kd.rls l
  | .pick l => Kd.rls l + 3 * l.length
  | .many k b => 5 + Kd.rl k + b.length
def Kd.rls : List Kd → Nat
  | [] => 0
  | k :: r => Kd.rl k + Kd.rls r
end
/-- the doors of a run -/
def doorsR (s : List Nat) (e : Nat) : Nat → Nat → List Rw
  | _, 0 => []
  | b, n + 1 => .both (b + 1) e :: .sign s :: doorsR s e (b + 2) n
mutual
def lay (b : Nat) : Kd → List Rw
  | .word t => t.map fun c => .sign [c]
  | .run s lo hi => .mark runN 0 :: (List.replicate lo (.sign s) ++ (doorsR s (b + 1 + lo + 2 * (hi - lo)) (b + 1 + lo) (hi - lo) ++ [.mark runN 1]))
  | .row l => layL b l
  | .pick l => layP l.length (fun _ => .go (b + Kd.rls l + 3 * l.length)) b 0 l
  | .many k m => .both (b + 1) (b + 4 + k.rl + m.length) :: .mark thingN 0 :: (lay (b + 2) k ++ (.both (b + 3 + k.rl) (b + 4 + k.rl + m.length) :: ((m.map fun c => .sign [c]) ++ [.go (b + 1), .mark overN 0])))
def layL (b : Nat) : List Kd → List Rw
  | [] => []
  | k :: r => lay b k ++ layL (b + k.rl) r
def layP (n : Nat) (g : Nat → Rw) (b p : Nat) : List Kd → List Rw
  | [] => []
  | k :: r => (if p + 1 = n then .go (b + 1) else .both (b + 1) (b + 3 + k.rl)) :: .mark pickN p :: (lay (b + 2) k ++ (g p :: layP n g (b + 3 + k.rl) (p + 1) r))
end
theorem doorsR_len (s : List Nat) (e : Nat) : ∀ n b, (doorsR s e b n).length = 2 * n
  | 0, _ => rfl
  | n + 1, b => by simp [doorsR, doorsR_len s e n (b + 2)]; omega
mutual
theorem lay_len : ∀ (k : Kd) (b : Nat), (lay b k).length = k.rl
  | .word t, b => by simp [lay, Kd.rl]
  | .run s lo hi, b => by simp [lay, Kd.rl, doorsR_len]; omega
  | .row l, b => by simp [lay, Kd.rl, layL_len l b]
  | .pick l, b => by simp [lay, Kd.rl, layP_len l _ _ b 0]
  | .many k m, b => by simp [lay, Kd.rl, lay_len k (b + 2)]; omega
theorem layL_len : ∀ (l : List Kd) (b : Nat), (layL b l).length = Kd.rls l
  | [], b => rfl
  | k :: r, b => by simp [layL, Kd.rls, lay_len k b, layL_len r (b + k.rl)]
theorem layP_len : ∀ (l : List Kd) (n : Nat) (g : Nat → Rw) (b p : Nat), (layP n g b p l).length = Kd.rls l + 3 * l.length
  | [], n, g, b, p => rfl
  | k :: r, n, g, b, p => by simp [layP, Kd.rls, lay_len k (b + 2), layP_len r n g (b + 3 + k.rl) (p + 1)]; omega
end
mutual
theorem rl_le : ∀ k : Kd, k.rl ≤ 3 * k.sz
  | .word t => by simp only [Kd.rl, Kd.sz]; omega
  | .run s lo hi => by simp only [Kd.rl, Kd.sz]; omega
  | .row l => by have := rls_le l; simp only [Kd.rl, Kd.sz]; omega
  | .pick l => by have := rls_le l; simp only [Kd.rl, Kd.sz]; omega
  | .many k m => by have := rl_le k; simp only [Kd.rl, Kd.sz]; omega
theorem rls_le : ∀ l : List Kd, Kd.rls l + 3 * l.length ≤ 3 * Kd.szs l
  | [] => by simp [Kd.rls, Kd.szs]
  | k :: r => by have := rl_le k; have := rls_le r; simp only [Kd.rls, Kd.szs, List.length_cons]; omega
end
/-- rows that lead on within -/
def RwIn (n : Nat) : Rw → Prop
  | .both a b => a < n ∧ b < n
  | .go a => a < n
  | _ => True
theorem doorsR_in (s : List Nat) (e m : Nat) (he : e < m) : ∀ n b, b + 2 * n ≤ m → ∀ r ∈ doorsR s e b n, RwIn m r
  | 0, b, _, r, h => by cases h
  | n + 1, b, hb, r, h => by
    rcases List.mem_cons.1 h with rfl | h
    · exact ⟨by omega, he⟩
    · rcases List.mem_cons.1 h with rfl | h
      · trivial
      · exact doorsR_in s e m he n (b + 2) (by omega) r h
theorem sign_in {m : Nat} {t : List Nat} : ∀ r ∈ t.map (fun c => Rw.sign [c]), RwIn m r := by
  intro r h; obtain ⟨c, _, rfl⟩ := List.mem_map.1 h; trivial
mutual
theorem lay_in : ∀ (k : Kd) (b m : Nat), b + k.rl < m → ∀ r ∈ lay b k, RwIn m r
  | .word t, b, m, _, r, h => sign_in r (by simpa [lay] using h)
  | .run s lo hi, b, m, hm, r, h => by
    simp only [Kd.rl] at hm
    simp only [lay, List.mem_cons, List.mem_append, List.not_mem_nil, or_false] at h
    rcases h with rfl | h | h | rfl
    · trivial
    · rw [(List.mem_replicate.1 h).2]; trivial
    · exact doorsR_in s _ m (by omega) _ _ (by omega) r h
    · trivial
  | .row l, b, m, hm, r, h => layL_in l b m (by simpa [Kd.rl] using hm) r (by simpa [lay] using h)
  | .pick l, b, m, hm, r, h => by
    simp only [Kd.rl] at hm
    exact layP_in l l.length (fun _ => .go (b + Kd.rls l + 3 * l.length)) b 0 m (fun _ => by show b + Kd.rls l + 3 * l.length < m; omega) (by omega) (by omega) r (by simpa only [lay] using h)
  | .many k t, b, m, hm, r, h => by
    simp only [Kd.rl] at hm
    simp only [lay, List.mem_cons, List.mem_append, List.not_mem_nil, or_false] at h
    rcases h with rfl | rfl | h | rfl | h | rfl | rfl
    · exact ⟨by omega, by omega⟩
    · trivial
    · exact lay_in k (b + 2) m (by omega) r h
    · exact ⟨by omega, by omega⟩
    · exact sign_in r h
    · show b + 1 < m; omega
    · trivial
theorem layL_in : ∀ (l : List Kd) (b m : Nat), b + Kd.rls l < m → ∀ r ∈ layL b l, RwIn m r
  | [], b, m, _, r, h => by simp [layL] at h
  | k :: l, b, m, hm, r, h => by
    simp only [Kd.rls] at hm
    simp only [layL, List.mem_append] at h
    rcases h with h | h
    · exact lay_in k b m (by omega) r h
    · exact layL_in l (b + k.rl) m (by omega) r h
theorem layP_in : ∀ (l : List Kd) (n : Nat) (g : Nat → Rw) (b p m : Nat), (∀ q, RwIn m (g q)) → p + l.length ≤ n → b + Kd.rls l + 3 * l.length < m → ∀ r ∈ layP n g b p l, RwIn m r
  | [], n, g, b, p, m, _, _, _, r, h => by simp [layP] at h
  | k :: l, n, g, b, p, m, he, hn, hm, r, h => by
    simp only [Kd.rls, List.length_cons] at hm hn
    simp only [layP, List.mem_cons, List.mem_append] at h
    rcases h with rfl | rfl | h | rfl | h
    · split
      · show b + 1 < m; omega
      · exact ⟨by omega, by omega⟩
    · trivial
    · exact lay_in k (b + 2) m (by omega) r h
    · exact he _
    · exact layP_in l n g (b + 3 + k.rl) (p + 1) m he (by omega) (by omega) r h
end
theorem layL_app : ∀ (l m : List Kd) (b : Nat), layL b (l ++ m) = layL b l ++ layL (b + Kd.rls l) m
  | [], m, b => by simp [layL, Kd.rls]
  | k :: l, m, b => by simp [layL, Kd.rls, layL_app l m (b + k.rl), Nat.add_assoc]
theorem layP_app : ∀ (l m : List Kd) (n : Nat) (g : Nat → Rw) (b p : Nat), layP n g b p (l ++ m) = layP n g b p l ++ layP n g (b + Kd.rls l + 3 * l.length) (p + l.length) m
  | [], m, n, g, b, p => by simp [layP, Kd.rls]
  | k :: l, m, n, g, b, p => by
    have e1 : b + 3 + k.rl + Kd.rls l + 3 * l.length = b + (k.rl + Kd.rls l) + 3 * (l.length + 1) := by omega
    have e2 : p + 1 + l.length = p + (l.length + 1) := by omega
    simp [layP, Kd.rls, layP_app l m n g (b + 3 + k.rl) (p + 1), e1, e2]
theorem rls_app : ∀ (l m : List Kd), Kd.rls (l ++ m) = Kd.rls l + Kd.rls m
  | [], m => by simp [Kd.rls]
  | k :: l, m => by simp [Kd.rls, rls_app l m]; omega
/-- where the end of the part q stands -/
def endP (b : Nat) : List Kd → Nat → Nat
  | [], _ => b
  | k :: _, 0 => b + 2 + k.rl
  | k :: r, q + 1 => endP (b + 3 + k.rl) r q
theorem endP_lt : ∀ (l : List Kd) (b q : Nat), q < l.length → b ≤ endP b l q ∧ endP b l q < b + Kd.rls l + 3 * l.length
  | k :: r, b, 0, _ => by simp only [endP, Kd.rls, List.length_cons]; omega
  | k :: r, b, q + 1, h => by
    have := endP_lt r (b + 3 + k.rl) q (by simpa using h)
    simp only [endP, Kd.rls, List.length_cons]; omega
theorem layP_congr : ∀ (l : List Kd) (n : Nat) (g g' : Nat → Rw) (b p : Nat), (∀ z, p ≤ z → z < p + l.length → g z = g' z) → layP n g b p l = layP n g' b p l
  | [], _, _, _, _, _, _ => rfl
  | k :: r, n, g, g', b, p, h => by simp only [layP, h p (Nat.le_refl _) (by simp), layP_congr r n g g' (b + 3 + k.rl) (p + 1) fun z hz h2 => h z (by omega) (by simp; omega)]
theorem layP_set : ∀ (l : List Kd) (n : Nat) (g g' : Nat → Rw) (b p q : Nat), q < l.length → (∀ z, z ≠ p + q → g' z = g z) → (layP n g b p l).set (endP b l q - b) (g' (p + q)) = layP n g' b p l
  | k :: r, n, g, g', b, p, 0, _, hg => by
    have e : layP n g (b + 3 + k.rl) (p + 1) r = layP n g' (b + 3 + k.rl) (p + 1) r := layP_congr r n g g' _ _ fun z hz _ => (hg z (by omega)).symm
    have e2 : endP b (k :: r) 0 - b = k.rl + 2 := by simp only [endP]; omega
    rw [e2]
    simp only [layP, List.set_cons_succ, e]
    rw [List.set_append_right _ _ (by rw [lay_len]; omega), lay_len]
    simp
  | k :: r, n, g, g', b, p, q + 1, h, hg => by
    have h' : q < r.length := by simpa using h
    have ih := layP_set r n g g' (b + 3 + k.rl) (p + 1) q h' (fun z hz => hg z (by omega))
    have hl := endP_lt r (b + 3 + k.rl) q h'
    have e2 : endP b (k :: r) (q + 1) - b = (endP (b + 3 + k.rl) r q - (b + 3 + k.rl)) + 1 + k.rl + 2 := by simp only [endP]; omega
    have e3 : g p = g' p := (hg p (by omega)).symm
    have e4 : p + 1 + q = p + (q + 1) := by omega
    rw [e4] at ih
    rw [e2]
    simp only [layP, List.set_cons_succ]
    rw [List.set_append_right _ _ (by rw [lay_len]; omega), lay_len]
    have e5 : endP (b + 3 + k.rl) r q - (b + 3 + k.rl) + 1 + k.rl - k.rl = (endP (b + 3 + k.rl) r q - (b + 3 + k.rl)) + 1 := by omega
    rw [e5, List.set_cons_succ, ih, e3]
/-- the doors of a run, the first j written -/
def doorsM (s : List Nat) (e : Nat) : Nat → Nat → Nat → List Rw
  | _, _, 0 => []
  | b, 0, n + 1 => .fin :: .sign s :: doorsM s e (b + 2) 0 n
  | b, j + 1, n + 1 => .both (b + 1) e :: .sign s :: doorsM s e (b + 2) j n
theorem doorsM_len (s : List Nat) (e : Nat) : ∀ n j b, (doorsM s e b j n).length = 2 * n
  | 0, j, _ => by simp [doorsM]
  | n + 1, 0, b => by simp [doorsM, doorsM_len s e n 0 (b + 2)]; omega
  | n + 1, j + 1, b => by simp [doorsM, doorsM_len s e n j (b + 2)]; omega
theorem doorsM_full (s : List Nat) (e : Nat) : ∀ n b, doorsM s e b n n = doorsR s e b n
  | 0, _ => rfl
  | n + 1, b => by simp [doorsM, doorsR, doorsM_full s e n (b + 2)]
theorem doorsM_more (s : List Nat) (e : Nat) : ∀ n b, doorsM s e b 0 (n + 1) = doorsM s e b 0 n ++ [.fin, .sign s]
  | 0, _ => rfl
  | n + 1, b => by rw [doorsM, doorsM_more s e n (b + 2), doorsM]; rfl
theorem doorsM_set (s : List Nat) (e : Nat) : ∀ n j b, j < n → (doorsM s e b j n).set (2 * j) (.both (b + 2 * j + 1) e) = doorsM s e b (j + 1) n
  | n + 1, 0, b, _ => by simp [doorsM]
  | n + 1, j + 1, b, h => by
    have ih := doorsM_set s e n j (b + 2) (by omega)
    have e1 : b + 2 + 2 * j + 1 = b + 2 * (j + 1) + 1 := by omega
    have e2 : 2 * (j + 1) = 2 * j + 1 + 1 := by omega
    rw [e1] at ih
    rw [doorsM, e2, List.set_cons_succ, List.set_cons_succ, ← e2, ih, doorsM]
theorem doorsM_zero (s : List Nat) (e e' b b' : Nat) : ∀ n, doorsM s e b 0 n = doorsM s e' b' 0 n := by
  intro n
  induction n generalizing b b' with
  | zero => rfl
  | succ n ih => simp only [doorsM, ih (b + 2) (b' + 2)]
theorem endP_at : ∀ (l : List Kd) (b q : Nat) (k : Kd), l[q]? = some k → endP b l q = b + Kd.rls (l.take q) + 3 * q + 2 + k.rl
  | x :: r, b, 0, k, h => by cases h; simp only [endP, List.take_zero, Kd.rls] <;> omega
  | x :: r, b, q + 1, k, h => by
    have := endP_at r (b + 3 + x.rl) q k (by simpa using h)
    simp only [endP, List.take_succ_cons, Kd.rls, this]; omega
theorem rls_take : ∀ (l : List Kd) (q : Nat) (k : Kd), l[q]? = some k → Kd.rls (l.take q) + k.rl ≤ Kd.rls l
  | x :: r, 0, k, h => by cases h; simp only [List.take_zero, Kd.rls]; omega
  | x :: r, q + 1, k, h => by
    have := rls_take r q k (by simpa using h)
    simp only [List.take_succ_cons, Kd.rls]; omega
/-! ## the laying, walked -/
def hp (rs : List Rw) : Cell := .lst (rs.map fun r => .d (rwD r))
abbrev lc (h : Nat) : Cell := .ins "Laying" [("heap", .c h)]
structure Hs (μ : Mu) (i h : Nat) (rs : List Rw) : Prop where
  i : μ[i]? = some (lc h)
  h : μ[h]? = some (hp rs)
theorem Hs.ne {μ : Mu} {i h : Nat} {rs : List Rw} (s : Hs μ i h rs) : h ≠ i := by
  rintro rfl; have := s.i.symm.trans s.h; simp [hp] at this
theorem Hs.lt {μ : Mu} {i h : Nat} {rs : List Rw} (s : Hs μ i h rs) : h < μ.length := (List.getElem?_eq_some_iff.1 s.h).1
theorem Hs.set {μ : Mu} {i h : Nat} {rs : List Rw} (s : Hs μ i h rs) (rs' : List Rw) : Hs (μ.set h (hp rs')) i h rs' :=
  ⟨by rw [List.getElem?_set_ne s.ne]; exact s.i, List.getElem?_set_self s.lt⟩
theorem Hs.si {μ : Mu} {i h : Nat} {rs : List Rw} (s : Hs μ i h rs) (c : Cell) : (μ.set h c)[i]? = some (lc h) := by rw [List.getElem?_set_ne s.ne]; exact s.i
theorem Hs.sh {μ : Mu} {i h : Nat} {rs : List Rw} (s : Hs μ i h rs) (c : Cell) : (μ.set h c)[h]? = some c := List.getElem?_set_self s.lt
theorem Hs.app {μ : Mu} {i h : Nat} {rs : List Rw} (s : Hs μ i h rs) (t : Mu) : Hs (μ ++ t) i h rs :=
  ⟨by rw [List.getElem?_append_left (List.getElem?_eq_some_iff.1 s.i).1]; exact s.i, by rw [List.getElem?_append_left s.lt]; exact s.h⟩
theorem Hs.sia {μ : Mu} {i h : Nat} {rs : List Rw} (s : Hs μ i h rs) (c : Cell) (t : Mu) : (μ.set h c ++ t)[i]? = some (lc h) := by
  rw [List.getElem?_append_left (by rw [List.length_set]; exact (List.getElem?_eq_some_iff.1 s.i).1)]; exact s.si c
theorem Hs.sha {μ : Mu} {i h : Nat} {rs : List Rw} (s : Hs μ i h rs) (c : Cell) (t : Mu) : (μ.set h c ++ t)[h]? = some c := by
  rw [List.getElem?_append_left (by rw [List.length_set]; exact s.lt)]; exact s.sh c
theorem Hs.ssa {μ : Mu} {i h : Nat} {rs : List Rw} (s : Hs μ i h rs) (c c' : Cell) (t : Mu) : (μ.set h c ++ t).set h c' = μ.set h c' ++ t := by
  rw [List.set_append_left _ _ (by rw [List.length_set]; exact s.lt), List.set_set]
theorem set_len {μ t : Mu} {h : Nat} {c x : Cell} : (μ.set h c ++ x :: t)[μ.length]? = some x := by
  rw [List.getElem?_append_right (by simp)]; simp
theorem set_put {μ t : Mu} {h : Nat} {c x y : Cell} : (μ.set h c ++ x :: t).set μ.length y = μ.set h c ++ y :: t := by
  rw [List.set_append_right _ _ (by simp)]; simp
theorem Hs.sapp {μ : Mu} {i h : Nat} {rs : List Rw} (s : Hs μ i h rs) (rs' : List Rw) (t : Mu) : Hs (μ.set h (hp rs') ++ t) i h rs' := (s.set rs').app t
theorem hp_flat (rs : List Rw) : (hp rs).flat = true := by
  simp [hp, Cell.flat, flatS]
@[simp] theorem gc_setH {μ : Mu} {h : Nat} {c : Cell} : gcM μ (μ.set h c) = μ.set h c := gc_len (by simp)
@[simp] theorem gc_setT {μ t : Mu} {h : Nat} {rs : List Rw} : gcM μ (μ.set h (hp rs) ++ t) = μ.set h (hp rs) := gc_set _ _ _ _ (hp_flat rs)
def mp (rs : List Rw) : List Sv := rs.map fun r => .d (rwD r)
theorem mp_len (rs : List Rw) : (mp rs).length = rs.length := by simp [mp]
theorem hp_app (rs : List Rw) (r : Rw) : Cell.lst (mp rs ++ [.d (rwD r)]) = hp (rs ++ [r]) := by simp [hp, mp]
theorem hp_set (rs : List Rw) (j : Nat) (r : Rw) : Cell.lst ((mp rs).set j (.d (rwD r))) = hp (rs.set j r) := by simp [hp, mp, List.map_set]
theorem mp_set (rs : List Rw) (j : Nat) (r : Rw) : (mp rs).set j (.d (rwD r)) = mp (rs.set j r) := by simp [mp, List.map_set]
theorem hp_c (rs : List Rw) {kl : List Sv → Prop} {kd : List (Key × Sv) → Prop} {ki : String → List (String × Sv) → Prop} : cellc (some (hp rs)) kl kd ki = kl (mp rs) := rfl
theorem ixN_nat {n j : Nat} (h : j < n) : ixN n (j : Int) = some j := by
  unfold ixN; rw [if_pos (by omega), if_pos (by omega)]; simp
theorem hp_t (rs : List Rw) : tyC "list" (some (hp rs)) = true := rfl
theorem lay1 {μ : Mu} {i h : Nat} {rs : List Rw} (s : Hs μ i h rs) (r : Rw) (hl : rs.length < 1000000) : f_Laying_lay [.c i, .d (rwD r)] μ = some (.ok (.d (.int rs.length)), μ.set h (hp (rs ++ [r]))) := by
  apply of_Ev
  unfold f_Laying_lay
  simp -dsimp [s.i, s.h, s.si, s.sh, hp_c, hp_app, hp_t, mp_len]
  omega
theorem hp_self {μ : Mu} {i h : Nat} {rs : List Rw} (s : Hs μ i h rs) : μ.set h (hp rs) = μ := by
  apply List.ext_getElem?
  intro j
  rw [List.getElem?_set]
  split
  · rename_i e; subst e; rw [if_pos s.lt, s.h]
  · rfl
theorem lay_signs {μ : Mu} {i h : Nat} {rs : List Rw} (s : Hs μ i h rs) (t : List Nat) (hl : rs.length + t.length < 1000000) : f_Laying_lay_signs [.c i, .d (.str t)] μ = some (.ok (.d .non), μ.set h (hp (rs ++ t.map fun c => .sign [c]))) := by
  apply of_Ev
  unfold f_Laying_lay_signs
  simp -dsimp
  generalize hw : (t.map fun c => Rw.sign [c]) = w
  refine Es_forL (fun j δ μ' => ∃ y, δ = [some (.c i), some (.d (.str t)), y] ∧ μ' = μ.set h (hp (rs ++ w.take j))) _ 0 _ _ ⟨none, rfl, by simp [hp_self s]⟩ ?_ ?_
  · rintro j x δ μ' hx ⟨y, rfl, rfl⟩
    rw [Nat.zero_add]
    rw [List.getElem?_map] at hx
    cases hj : t[j]? with
    | none => rw [hj] at hx; cases hx
    | some c =>
      rw [hj] at hx; cases hx
      have sj := s.set (rs ++ w.take j)
      have ht := (List.getElem?_eq_some_iff.1 hj).1
      have hwl : w.length = t.length := by rw [← hw]; simp
      have hwj : w[j]? = some (.sign [c]) := by rw [← hw, List.getElem?_map, hj]; rfl
      simp -dsimp [s.si]
      refine Ev_of (lay1 sj (.sign [c]) (by simp; omega)) ?_
      simp -dsimp
      rw [List.take_add_one, hwj]
      simp
  · rintro δ μ' ⟨y, rfl, rfl⟩
    simp -dsimp
    rw [List.take_of_length_le (by rw [← hw]; simp)]
abbrev runO (t : List Nat) (lo hi : Nat) : D := .ins "Run" [("signs", .str t), ("least", .int lo), ("most", .int hi)]
theorem lay_run {μ : Mu} {i h : Nat} {rs : List Rw} (s : Hs μ i h rs) (t : List Nat) (lo hi : Nat) (hl : rs.length + (2 + lo + 2 * (hi - lo)) < 900000) : f_Laying_lay_run [.c i, .d (runO t lo hi)] μ = some (.ok (.d .non), μ.set h (hp (rs ++ lay rs.length (.run t lo hi)))) := by
  apply of_Ev
  unfold f_Laying_lay_run
  simp -dsimp [s.i]
  refine Ev_of (lay1 s (.mark runN 0) (by omega)) ?_
  simp -dsimp
  have s1 := s.set (rs ++ [.mark runN 0])
  generalize hr1 : rs ++ [Rw.mark runN 0] = r1 at s1 ⊢
  have l1 : r1.length = rs.length + 1 := by rw [← hr1]; simp
  refine ⟨by omega, ?_⟩
  refine Es_forL (fun j δ μ' => ∃ y, δ = [some (.c i), some (.d (runO t lo hi)), y, none, none, none] ∧ μ' = μ.set h (hp (r1 ++ List.replicate j (.sign t)))) _ 0 _ _ ⟨none, rfl, by simp⟩ ?_ ?_
  · rintro j x δ μ' hx ⟨y, rfl, rfl⟩
    obtain ⟨hj, rfl⟩ := rngI_at hx
    rw [Nat.zero_add]
    simp -dsimp [s.si]
    refine Ev_of (lay1 (s.set _) (.sign t) (by simp; omega)) ?_
    simp -dsimp [List.replicate_succ']
  rintro δ μ' ⟨y, rfl, rfl⟩
  simp -dsimp [s.si]
  have s2 := s.set (r1 ++ List.replicate lo (.sign t))
  generalize hr2 : r1 ++ List.replicate lo (.sign t) = r2 at s2 ⊢
  have l2 : r2.length = rs.length + 1 + lo := by rw [← hr2]; simp; omega
  refine ⟨by omega, ?_⟩
  refine Es_forL (fun j δ μ' => ∃ y, δ = [some (.c i), some (.d (runO t lo hi)), y, some (.c μ.length), none, none] ∧ μ' = μ.set h (hp (r2 ++ doorsM t 0 0 0 j)) ++ [.lst ((List.range j).map fun (q : Nat) => .d (.int ((r2.length + 2 * q : Nat) : Int)))]) _ 0 _ _ ⟨y, rfl, by simp [doorsM]⟩ ?_ ?_
  · rintro j x δ μ' hx ⟨y, rfl, rfl⟩
    obtain ⟨hj, rfl⟩ := rngI_at hx
    rw [Nat.zero_add]
    have ld := doorsM_len t 0 j 0 0
    simp -dsimp [s.sia]
    refine Ev_of (lay1 (s.sapp _ _) .fin (by simp; omega)) ?_
    simp -dsimp [s.ssa, set_len, set_put, s.sia]
    refine ⟨by omega, ?_⟩
    refine Ev_of (lay1 (s.sapp _ _) (.sign t) (by simp; omega)) ?_
    simp -dsimp [s.ssa, set_len, set_put]
    rw [doorsM_more, ld]
    exact ⟨rfl, by simp [List.range_succ]⟩
  rintro δ μ' ⟨y, rfl, rfl⟩
  have ld := doorsM_len t 0 (hi - lo) 0 0
  simp -dsimp [s.sia]
  refine Ev_of (lay1 (s.sapp _ _) (.mark runN 1) (by simp; omega)) ?_
  simp -dsimp [s.ssa, set_len, set_put]
  rw [ld, doorsM_zero t 0 (r2.length + 2 * (hi - lo)) 0 r2.length]
  generalize hn : hi - lo = n
  generalize hd : Cell.lst (List.map (fun (q : Nat) => Sv.d (D.int (↑r2.length + 2 * ↑q))) (List.range n)) = dc
  refine Es_forLW (fun j δ μ' => ∃ y5, δ = [some (.c i), some (.d (runO t lo hi)), y, some (.c μ.length), some (.d (.int ((r2.length + 2 * n : Nat) : Int))), y5] ∧ μ' = μ.set h (hp (r2 ++ (doorsM t (r2.length + 2 * n) r2.length j n ++ [.mark runN 1]))) ++ [dc]) ?_ _ 0 _ _ ⟨none, by simp, rfl⟩ ?_ ?_
  · rintro j δ μ' ⟨y5, rfl, rfl⟩
    exact set_len
  · rintro j x δ μ' hx ⟨y5, rfl, rfl⟩
    rw [Nat.zero_add]
    rw [List.getElem?_map] at hx
    have hj : j < n := by
      by_cases hj : j < n
      · exact hj
      · rw [List.getElem?_eq_none (by simpa using hj)] at hx; cases hx
    rw [List.getElem?_range hj] at hx
    cases hx
    have ld := doorsM_len t (r2.length + 2 * n) n j r2.length
    simp -dsimp [s.sia, s.sha, hp_c, mp_len]
    have hx : ixN (r2.length + ((doorsM t (r2.length + 2 * n) r2.length j n).length + 1)) ((r2.length : Int) + 2 * (j : Int)) = some (r2.length + 2 * j) := by
      have := ixN_nat (n := r2.length + ((doorsM t (r2.length + 2 * n) r2.length j n).length + 1)) (j := r2.length + 2 * j) (by omega)
      simpa using this
    have e1 : Sv.d (.tup [.str [98, 111, 116, 104], .int ((r2.length : Int) + 2 * (j : Int) + 1), .int ((r2.length : Int) + 2 * (n : Int))]) = .d (rwD (.both (r2.length + 2 * j + 1) (r2.length + 2 * n))) := by simp [rwD]
    simp -dsimp [hx, s.ssa]
    rw [e1, hp_set, List.set_append_right _ _ (by omega), List.set_append_left _ _ (by omega), show r2.length + 2 * j - r2.length = 2 * j by omega, doorsM_set _ _ _ _ _ hj]
  · rintro δ μ' ⟨y5, rfl, rfl⟩
    simp -dsimp
    rw [doorsM_full, ← hr2, ← hr1, ← hn]
    have e2 : (rs ++ [Rw.mark runN 0] ++ List.replicate lo (Rw.sign t)).length = rs.length + 1 + lo := by simp; omega
    rw [e2]
    simp [lay]
theorem lay1i {μ : Mu} {i h : Nat} {rs : List Rw} (s : Hs μ i h rs) (r : Rw) (hl : rs.length < 1000000) {as : List Sv} {P : Except Exn Sv → Mu → Prop} (e : as = [.c i, .d (rwD r)]) (k : P (.ok (.d (.int rs.length))) (μ.set h (hp (rs ++ [r])))) : Ev (f_Laying_lay as μ) P := by
  subst e; exact Ev_of (lay1 s r hl) k
def LayOk (f : Nat) (k : Kd) : Prop := ∀ (μ : Mu) (i h : Nat) (rs : List Rw), Hs μ i h rs → rs.length + k.rl < 900000 → R_lay f 0 [.c i, .d k.o] μ = some (.ok (.d .non), μ.set h (hp (rs ++ lay rs.length k)))
theorem lay_many {f : Nat} {k : Kd} (hk : LayOk f k) (m : List Nat) {μ : Mu} {i h : Nat} {rs : List Rw} (s : Hs μ i h rs) (hl : rs.length + (5 + k.rl + m.length) < 900000) : b_Laying_lay_many (R_lay f) [.c i, .d (.ins "Many" [("part", k.o), ("between", .str m)])] μ = some (.ok (.d .non), μ.set h (hp (rs ++ lay rs.length (.many k m)))) := by
  apply of_Ev
  unfold b_Laying_lay_many
  simp -dsimp [s.i]
  refine Ev_of (lay1 s .fin (by omega)) ?_
  simp -dsimp [s.si]
  refine Ev_of (lay1 (s.set _) (.mark thingN 0) (by simp; omega)) ?_
  simp -dsimp [s.si]
  refine Ev_of (hk _ _ _ _ (s.set _) (by simp; omega)) ?_
  have ll := lay_len k (rs.length + 2)
  simp -dsimp [s.si]
  refine Ev_of (lay1 (s.set _) .fin (by simp; omega)) ?_
  simp -dsimp [s.si]
  refine Ev_of (lay_signs (s.set _) m (by simp; omega)) ?_
  simp -dsimp [s.si]
  refine Ev_of (lay1 (s.set _) (.go (rs.length + 1)) (by simp; omega)) ?_
  simp -dsimp [s.si]
  refine Ev_of (lay1 (s.set _) (.mark overN 0) (by simp; omega)) ?_
  simp -dsimp [s.si, s.sh, hp_c, mp_len]
  rw [ll]
  have x1 : ixN (rs.length + (k.rl + (m.length + 2 + 1) + 1 + 1)) (rs.length : Int) = some rs.length := ixN_nat (by omega)
  simp -dsimp [x1, s.si, s.sh, hp_c]
  have x2 : ixN (rs.length + (k.rl + (m.length + 2 + 1) + 1 + 1)) ((rs.length : Int) + ((k.rl : Int) + 1 + 1)) = some (rs.length + (k.rl + 2)) := by
    have := ixN_nat (n := rs.length + (k.rl + (m.length + 2 + 1) + 1 + 1)) (j := rs.length + (k.rl + 2)) (by omega)
    rw [← this]; congr 1
  have e1 : Sv.d (.tup [.str [98, 111, 116, 104], .int ((rs.length : Int) + 1), .int ((rs.length : Int) + ((k.rl : Int) + ((m.length : Int) + 1 + 1) + 1 + 1))]) = .d (rwD (.both (rs.length + 1) (rs.length + 4 + k.rl + m.length))) := by
    simp [rwD] <;> omega
  have e2 : Sv.d (.tup [.str [98, 111, 116, 104], .int ((rs.length : Int) + ((k.rl : Int) + 1 + 1) + 1), .int ((rs.length : Int) + ((k.rl : Int) + ((m.length : Int) + 1 + 1) + 1 + 1))]) = .d (rwD (.both (rs.length + 3 + k.rl) (rs.length + 4 + k.rl + m.length))) := by
    simp [rwD] <;> omega
  simp -dsimp [x2, mp_len, ll]
  rw [e1, e2, mp_set, mp_set]
  show μ.set h (hp _) = _
  congr 2
  rw [List.set_append_right _ _ (Nat.le_refl _), Nat.sub_self, List.set_append_right _ _ (by omega), show rs.length + (k.rl + 2) - rs.length = k.rl + 2 by omega]
  simp only [List.set_cons_zero, List.set_cons_succ]
  rw [List.set_append_right _ _ (by omega), ll, Nat.sub_self, List.set_cons_zero]
  simp [lay]
theorem bothE {a b : Int} {p q : Nat} (h1 : a = p) (h2 : b = q) : Sv.d (.tup [.str [98, 111, 116, 104], .int a, .int b]) = .d (rwD (.both p q)) := by subst h1; subst h2; rfl
theorem goE {a : Int} {p : Nat} (h1 : a = p) : Sv.d (.tup [.str [103, 111], .int a]) = .d (rwD (.go p)) := by subst h1; rfl
theorem ixN_int {n j : Nat} {a : Int} (e : a = j) (h : j < n) : ixN n a = some j := by subst e; exact ixN_nat h
theorem lay_pick {f : Nat} {l : List Kd} (hk : ∀ k ∈ l, LayOk f k) {μ : Mu} {i h : Nat} {rs : List Rw} (s : Hs μ i h rs) (hl : rs.length + (Kd.rls l + 3 * l.length) < 900000) : b_Laying_lay_pick (R_lay f) [.c i, .d (.lst (Kd.os l))] μ = some (.ok (.d .non), μ.set h (hp (rs ++ lay rs.length (.pick l)))) := by
  apply of_Ev
  unfold b_Laying_lay_pick
  simp -dsimp
  refine Es_forL (fun j δ μ' => ∃ y3 y4 y5, δ = [some (.c i), some (.d (.lst (Kd.os l))), some (.c μ.length), y3, y4, y5] ∧ μ' = μ.set h (hp (rs ++ layP l.length (fun _ => .fin) rs.length 0 (l.take j))) ++ [.lst ((List.range j).map fun (q : Nat) => .d (.int (endP rs.length l q : Nat)))]) _ 0 _ _ ⟨none, none, none, rfl, by simp [layP, hp_self s]⟩ ?_ ?_
  · rintro j x δ μ' hx ⟨y3, y4, y5, rfl, rfl⟩
    obtain ⟨z, hz, rfl⟩ := enI_at hx
    rw [Kd.os_map, List.getElem?_map] at hz
    cases hj : l[j]? with
    | none => rw [hj] at hz; cases hz
    | some k =>
      rw [hj] at hz; cases hz
      rw [Nat.zero_add]
      have hjl := (List.getElem?_eq_some_iff.1 hj).1
      have e1 := endP_at l rs.length j k hj
      have e2 := rls_take l j k hj
      have e3 : l.take (j + 1) = l.take j ++ [k] := by rw [List.take_add_one, hj]; rfl
      have ll := layP_len (l.take j) l.length (fun _ => .fin) rs.length 0
      rw [List.length_take_of_le (by omega)] at ll
      simp -dsimp [s.sia]
      refine Ev_of (lay1 (s.sapp _ _) .fin (by simp; omega)) ?_
      simp -dsimp [s.ssa, s.sia]
      refine Ev_of (lay1 (s.sapp _ _) (.mark pickN (j : Nat)) (by simp; omega)) ?_
      simp -dsimp [s.ssa, s.sia]
      refine Ev_of (hk k (List.mem_of_getElem? hj) _ _ _ _ (s.sapp _ _) (by simp; omega)) ?_
      have l2 : (rs ++ (layP l.length (fun x => Rw.fin) rs.length 0 (List.take j l) ++ [Rw.fin, Rw.mark pickN j])).length = rs.length + Kd.rls (l.take j) + 3 * j + 2 := by simp; omega
      have l3 := lay_len k (rs.length + Kd.rls (l.take j) + 3 * j + 2)
      rw [l2]
      simp -dsimp [s.ssa, s.sia]
      refine Ev_of (lay1 (s.sapp _ _) .fin (by simp; omega)) ?_
      simp -dsimp [s.ssa, s.sia, set_len, set_put]
      refine ⟨by omega, ?_⟩
      simp -dsimp [s.ssa, s.sia, s.sha, hp_c, mp_len]
      rw [ll, l3, ixN_int (j := rs.length + Kd.rls (l.take j) + 3 * j) (by omega) (by omega)]
      simp -dsimp [s.ssa, s.sia, s.sha, hp_c, mp_len]
      rw [ll, bothE (p := rs.length + Kd.rls (l.take j) + 3 * j + 1) (q := rs.length + Kd.rls (l.take j) + 3 * j + 3 + k.rl) (by omega) (by omega), mp_set]
      have hos : (Kd.os l).length = l.length := by rw [Kd.os_map, List.length_map]
      have fin_ : ∀ r : Rw, r = (if j + 1 = l.length then Rw.go (rs.length + Kd.rls (l.take j) + 3 * j + 1) else .both (rs.length + Kd.rls (l.take j) + 3 * j + 1) (rs.length + Kd.rls (l.take j) + 3 * j + 3 + k.rl)) → (rs ++ (layP l.length (fun x => Rw.fin) rs.length 0 (List.take j l) ++ Rw.fin :: Rw.mark pickN (j : Nat) :: (lay (rs.length + Kd.rls (l.take j) + 3 * j + 2) k ++ [Rw.fin]))).set (rs.length + Kd.rls (l.take j) + 3 * j) r = rs ++ layP l.length (fun x => Rw.fin) rs.length 0 (l.take (j + 1)) := by
        intro r hr
        rw [List.set_append_right _ _ (by omega), List.set_append_right _ _ (by omega), ll, show rs.length + Kd.rls (l.take j) + 3 * j - rs.length - (Kd.rls (l.take j) + 3 * j) = 0 by omega, List.set_cons_zero, e3, layP_app, hr]
        simp [layP, List.length_take_of_le (show j ≤ l.length by omega)]
      rw [hos]
      split
      · rename_i hlast
        rw [l3, ixN_int (j := rs.length + Kd.rls (l.take j) + 3 * j) (by omega) (by omega)]
        simp -dsimp [s.ssa]
        rw [goE (p := rs.length + Kd.rls (l.take j) + 3 * j + 1) (by omega), mp_set, List.set_set, fin_ _ (by rw [if_pos (by omega)])]
        exact ⟨rfl, by simp [List.range_succ, e1]; omega⟩
      · rename_i hlast
        rw [fin_ _ (by rw [if_neg (by omega)])]
        exact ⟨rfl, by simp [List.range_succ, e1]; omega⟩
  · rintro δ μ' ⟨y3, y4, y5, rfl, rfl⟩
    rw [Nat.zero_add, enI_length, Kd.os_map, List.length_map, List.take_of_length_le (Nat.le_refl _)]
    simp -dsimp [set_len]
    generalize hd : Cell.lst (List.map (fun (q : Nat) => Sv.d (D.int ↑(endP rs.length l q))) (List.range l.length)) = dc
    have e0 : (fun _ => Rw.fin) = fun p => if p < 0 then Rw.go (rs.length + Kd.rls l + 3 * l.length) else .fin := by funext p; simp
    rw [e0]
    refine Es_forLW (fun j δ μ' => ∃ y5, δ = [some (.c i), some (.d (.lst (l.map Kd.o))), some (.c μ.length), y3, y4, y5] ∧ μ' = μ.set h (hp (rs ++ layP l.length (fun p => if p < j then .go (rs.length + Kd.rls l + 3 * l.length) else .fin) rs.length 0 l)) ++ [dc]) ?_ _ 0 _ _ ⟨y5, rfl, rfl⟩ ?_ ?_
    · rintro j δ μ' ⟨y5, rfl, rfl⟩
      exact set_len
    · rintro j x δ μ' hx ⟨y5, rfl, rfl⟩
      rw [Nat.zero_add]
      rw [List.getElem?_map] at hx
      have hj : j < l.length := by
        by_cases hj : j < l.length
        · exact hj
        · rw [List.getElem?_eq_none (by simpa using hj)] at hx; cases hx
      rw [List.getElem?_range hj] at hx
      cases hx
      have ll := layP_len l l.length (fun p => if p < j then .go (rs.length + Kd.rls l + 3 * l.length) else .fin) rs.length 0
      have he := endP_lt l rs.length j hj
      simp -dsimp [s.sia, s.sha, hp_c, mp_len]
      rw [ll, ixN_nat (by omega)]
      simp -dsimp [s.sia, s.sha, s.ssa, hp_c, mp_len]
      rw [goE (p := rs.length + Kd.rls l + 3 * l.length) (by omega), mp_set]
      show μ.set h (hp _) = _
      congr 2
      have q := layP_set l l.length (fun p => if p < j then .go (rs.length + Kd.rls l + 3 * l.length) else .fin) (fun p => if p < j + 1 then .go (rs.length + Kd.rls l + 3 * l.length) else .fin) rs.length 0 j hj (fun z hz => by
        by_cases h1 : z < j
        · simp [h1, show z < j + 1 by omega]
        · simp [h1, show ¬ z < j + 1 by omega])
      rw [if_pos (by omega)] at q
      rw [List.set_append_right _ _ he.1, q]
    · rintro δ μ' ⟨y5, rfl, rfl⟩
      simp -dsimp
      have q := layP_congr l l.length (fun p => if p < l.length then Rw.go (rs.length + Kd.rls l + 3 * l.length) else Rw.fin) (fun _ => Rw.go (rs.length + Kd.rls l + 3 * l.length)) rs.length 0 (fun z _ hz => by
        simp at hz; simp [hz])
      rw [q, lay]
theorem lay_kind : ∀ (n f : Nat) (k : Kd), k.dep < n → 2 * n ≤ f → LayOk f k
  | 0, f, k, h, _ => by omega
  | n + 1, f, k, h, hf => by
    obtain ⟨f, rfl⟩ : ∃ g, f = g + 2 := ⟨f - 2, by omega⟩
    intro μ i h' rs s hl
    apply of_Ev
    show Ev (b_Laying_lay_kind (R_lay (f + 1)) _ _) _
    unfold b_Laying_lay_kind
    cases k with
    | word t =>
      simp -dsimp [Kd.o, s.i]
      refine Ev_of (lay_signs s t (by simp only [Kd.rl] at hl; omega)) ?_
      simp -dsimp [lay]
    | run t lo hi =>
      simp -dsimp [Kd.o, s.i]
      refine Ev_of (lay_run s t lo hi (by simp only [Kd.rl] at hl; omega)) ?_
      simp -dsimp
    | row l =>
      simp only [Kd.dep] at h
      simp only [Kd.rl] at hl
      simp -dsimp [Kd.o, s.i, Kd.os_map]
      refine Es_forL (fun j δ μ' => ∃ y, δ = [some (.c i), some (.d (.ins "Row" [("parts", .lst (l.map Kd.o))])), y] ∧ μ' = μ.set h' (hp (rs ++ layL rs.length (l.take j)))) _ 0 _ _ ⟨none, rfl, by simp [layL, hp_self s]⟩ ?_ ?_
      · rintro j x δ μ' hx ⟨y, rfl, rfl⟩
        rw [Nat.zero_add]
        simp only [List.getElem?_map, Option.map_map] at hx
        cases hj : l[j]? with
        | none => rw [hj] at hx; cases hx
        | some k =>
          rw [hj] at hx; cases hx
          have e2 := rls_take l j k hj
          have hd := Kd.dep_mem (List.mem_of_getElem? hj)
          have e3 : l.take (j + 1) = l.take j ++ [k] := by rw [List.take_add_one, hj]; rfl
          have ll := layL_len (l.take j) rs.length
          simp -dsimp [s.si]
          refine Ev_of (lay_kind n (f + 1) k (by omega) (by omega) _ _ _ _ (s.set _) (by simp; omega)) ?_
          simp -dsimp
          rw [e3, layL_app, ll]
          simp [layL]
      · rintro δ μ' ⟨y, rfl, rfl⟩
        simp -dsimp
        rw [lay]
    | pick l =>
      simp only [Kd.dep] at h
      simp only [Kd.rl] at hl
      simp -dsimp [Kd.o, s.i]
      refine Ev_of (show R_lay (f + 1) 1 [.c i, .d (.lst (Kd.os l))] μ = _ from lay_pick (fun k hk => ?_) s hl) ?_
      · have hd := Kd.dep_mem hk
        exact lay_kind n f k (by omega) (by omega)
      · simp -dsimp
    | many k m =>
      simp only [Kd.dep] at h
      simp only [Kd.rl] at hl
      simp -dsimp [Kd.o, s.i]
      refine Ev_of (show R_lay (f + 1) 2 [.c i, .d (.ins "Many" [("part", k.o), ("between", .str m)])] μ = _ from lay_many (lay_kind n f k (by omega) (by omega)) m s (by omega)) ?_
      simp -dsimp
theorem gc_newL {μ : Mu} {h : Nat} {x : Cell} : gcM (μ ++ [.ins "Laying" []]) (μ ++ [lc h, x]) = μ ++ [lc h, x] := by
  unfold gcM
  rw [if_neg]
  rintro ⟨_, h2⟩
  have := h2 μ.length (lc h) (by simp) (by simp)
  simp [Cell.flat, flatS] at this
theorem laying_sp (μ : Mu) : f_Laying_init [.c μ.length] (μ ++ [.ins "Laying" []]) = some (.ok (.d .non), μ ++ [lc (μ.length + 1), hp []]) := by
  apply of_Ev
  unfold f_Laying_init
  simp -dsimp
  exact gc_newL
theorem rows_of_sp (k : Kd) (hd : k.dep ≤ 9) (hl : k.rl < 800000) (μ : Mu) : Ev (f_rows_of [.d k.o] μ) fun r μ' => ∃ t, r = .ok (.c (μ.length + 1)) ∧ μ' = μ ++ t ∧ (μ ++ t)[μ.length + 1]? = some (hp (lay 0 k ++ [.fin])) := by
  unfold f_rows_of
  simp -dsimp
  refine Ev_mkZ (Ev_of (laying_sp μ) ?_)
  have s : ∀ X, Hs (μ ++ [lc (μ.length + 1), hp X]) μ.length (μ.length + 1) X := fun X => ⟨by simp, by rw [List.getElem?_append_right (by omega)]; simp⟩
  simp -dsimp [(s _).i]
  refine Ev_of (show R_lay 20 0 [.c μ.length, .d k.o] _ = _ from lay_kind 10 20 k (by omega) (by omega) _ _ _ _ (s _) (by simp; omega)) ?_
  simp -dsimp [(s _).i]
  have ll := lay_len k 0
  refine Ev_of (lay1 (s _) .fin (by omega)) ?_
  simp -dsimp [(s _).i]
/-! ## a kind's text -/
theorem replL_len (x : List Nat) : (PySem.StrLaws.replL [39] [39, 39] x).length ≤ 2 * x.length := by
  induction x with
  | nil => rw [PySem.StrLaws.replL_nil]; simp
  | cons c r ih =>
    have e : PySem.StrLaws.replL [39] [39, 39] (c :: r) = (if c = 39 then [39, 39] else [c]) ++ PySem.StrLaws.replL [39] [39, 39] r := by
      unfold PySem.StrLaws.replL
      rw [PySem.StrLaws.replS]
      by_cases h : c = 39 <;> simp [h]
    rw [e]
    simp only [List.length_append, List.length_cons]
    split <;> simp <;> omega
def qd (x : List Nat) : List Nat := 39 :: (PySem.StrLaws.replL [39] [39, 39] x ++ [39])
theorem qd_len (x : List Nat) : (qd x).length ≤ 2 * x.length + 2 := by
  have := replL_len x
  simp [qd]; omega
theorem quoted_sp (x : List Nat) (h : x.length ≤ 1000) (μ : Mu) : f_quoted [.d (.str x)] μ = some (.ok (.d (.str (qd x))), μ) := by
  have := replL_len x
  apply of_Ev
  unfold f_quoted
  simp -dsimp [qd]
  omega

theorem strI_len9 (i : Nat) (h : i ≤ 999) : (strI i).length ≤ 3 := by
  have : ∀ j : Fin 1000, (strI (j.val : Nat)).length ≤ 3 := by decide +kernel
  exact this ⟨i, by omega⟩
def itW (k : Kd) (w : List Nat) : List Nat := match k with
  | .row l => if l.length < 2 then w else 40 :: (w ++ [41])
  | .pick _ => 40 :: (w ++ [41])
  | _ => w
def alW (k : Kd) (w : List Nat) : List Nat := match k with
  | .pick _ => 40 :: (w ++ [41])
  | _ => w
mutual
def Kd.wr : Kd → List Nat
  | .word t => qd t
  | .run s lo hi => 60 :: (qd s ++ (32 :: (strI lo ++ (32 :: (strI hi ++ [62])))))
  | .row l => if l.length < 2 then 40 :: (joinL [32] (Kd.its l) ++ [41]) else joinL [32] (Kd.its l)
  | .pick l => joinL [32, 124, 32] (Kd.als l)
  | .many k b => if b = [] then 123 :: (Kd.wr k ++ [125]) else 123 :: (Kd.wr k ++ (32 :: 47 :: 32 :: (qd b ++ [125])))
def Kd.its : List Kd → List (List Nat)
  | [] => []
  | k :: r => itW k (Kd.wr k) :: Kd.its r
def Kd.als : List Kd → List (List Nat)
  | [] => []
  | k :: r => alW k (Kd.wr k) :: Kd.als r
end
theorem Kd.its_map : ∀ l, Kd.its l = l.map fun k => itW k k.wr
  | [] => rfl
  | k :: r => by simp [Kd.its, Kd.its_map r]
theorem Kd.als_map : ∀ l, Kd.als l = l.map fun k => alW k k.wr
  | [] => rfl
  | k :: r => by simp [Kd.als, Kd.als_map r]
theorem itW_len (k : Kd) (w : List Nat) : (itW k w).length ≤ w.length + 2 := by
  unfold itW; split
  · split <;> simp
  · simp
  · simp
theorem alW_len (k : Kd) (w : List Nat) : (alW k w).length ≤ w.length + 2 := by
  unfold alW; split <;> simp
theorem joinLlen (sep : List Nat) : ∀ l : List (List Nat), (joinL sep l).length ≤ (l.map List.length).sum + l.length * sep.length
  | [] => by simp [joinL]
  | [x] => by simp [joinL]
  | x :: y :: r => by
    have := joinLlen sep (y :: r)
    simp only [joinL, List.length_append, List.map_cons, List.sum_cons, List.length_cons, Nat.add_mul, Nat.one_mul] at *
    omega
mutual
theorem wr_len : ∀ k : Kd, k.sz ≤ 900 → k.wr.length ≤ 8 * k.sz
  | .word t, h => by have := qd_len t; simp only [Kd.wr, Kd.sz]; omega
  | .run s lo hi, h => by
    simp only [Kd.sz] at h
    have := qd_len s
    have := strI_len9 lo (by omega)
    have := strI_len9 hi (by omega)
    simp only [Kd.wr, Kd.sz, List.length_cons, List.length_append, List.length_nil]; omega
  | .row l, h => by
    simp only [Kd.sz] at h
    have h1 := its_len l (by omega)
    have h2 := joinLlen [32] (Kd.its l)
    have h3 : (Kd.its l).length = l.length := by rw [Kd.its_map, List.length_map]
    simp only [List.length_cons, List.length_nil] at h2
    simp only [Kd.wr, Kd.sz]
    split <;> simp <;> omega
  | .pick l, h => by
    simp only [Kd.sz] at h
    have h1 := als_len l (by omega)
    have h2 := joinLlen [32, 124, 32] (Kd.als l)
    have h3 : (Kd.als l).length = l.length := by rw [Kd.als_map, List.length_map]
    simp only [List.length_cons, List.length_nil] at h2
    simp only [Kd.wr, Kd.sz]
    omega
  | .many k b, h => by
    simp only [Kd.sz] at h
    have := wr_len k (by omega)
    have := qd_len b
    simp only [Kd.wr, Kd.sz]
    split <;> simp <;> omega
theorem its_len : ∀ l : List Kd, Kd.szs l ≤ 900 → ((Kd.its l).map List.length).sum + 6 * l.length ≤ 8 * Kd.szs l
  | [], _ => by simp [Kd.its]
  | k :: r, h => by
    simp only [Kd.szs] at h
    have := wr_len k (by omega)
    have := its_len r (by omega)
    have := itW_len k k.wr
    simp only [Kd.its, Kd.szs, List.map_cons, List.sum_cons, List.length_cons]; omega
theorem als_len : ∀ l : List Kd, Kd.szs l ≤ 900 → ((Kd.als l).map List.length).sum + 6 * l.length ≤ 8 * Kd.szs l
  | [], _ => by simp [Kd.als]
  | k :: r, h => by
    simp only [Kd.szs] at h
    have := wr_len k (by omega)
    have := als_len r (by omega)
    have := alW_len k k.wr
    simp only [Kd.als, Kd.szs, List.map_cons, List.sum_cons, List.length_cons]; omega
end
noncomputable abbrev tW (f : Nat) : List (String × Fn × List D) := [("Kind", f_Kind_written, []), ("Word", f_Word_written, []), ("Run", f_Run_written, []), ("Row", R_wr f 2, []), ("Pick", R_wr f 4, []), ("Many", R_wr f 7, [])]
noncomputable abbrev tI (f : Nat) : List (String × Fn × List D) := [("Kind", R_wr f 0, []), ("Word", R_wr f 0, []), ("Run", R_wr f 0, []), ("Row", R_wr f 3, []), ("Pick", R_wr f 5, []), ("Many", R_wr f 0, [])]
noncomputable abbrev tA (f : Nat) : List (String × Fn × List D) := [("Kind", R_wr f 1, []), ("Word", R_wr f 1, []), ("Run", R_wr f 1, []), ("Row", R_wr f 1, []), ("Pick", R_wr f 6, []), ("Many", R_wr f 1, [])]
/-- the method m of o tells v -/
def HasM (T : List (String × Fn × List D)) (m : String) (o v : D) : Prop := ∃ fn : Fn, (∀ μ, pick m T μ (.d o) = some (fn, [])) ∧ ∀ μ, fn [.d o] μ = some (.ok (.d v), μ)
theorem HasM.ev {T : List (String × Fn × List D)} {m : String} {o v : D} (h : HasM T m o v) {fa : Fz Sv} {δ : Dl} {μ : Mu} {P : Except Exn Sv → Mu → Prop} (e : fa δ μ = some (.ok (.d o), μ)) (p : P (.ok (.d v)) μ) : Ev (fMeth m T fa fNil δ μ) P := by
  obtain ⟨fn, h1, h2⟩ := h
  simp -dsimp [e, h1]
  exact Ev_of (h2 μ) (by simpa using p)
theorem item_sp {f : Nat} {k : Kd} (hs : k.sz ≤ 900) (h : HasM (tW f) "written" k.o (.str k.wr)) : HasM (tI (f + 1)) "item" k.o (.str (itW k k.wr)) := by
  have hl := wr_len k hs
  cases k with
  | row l =>
    refine ⟨R_wr (f + 1) 3, fun μ => by simp [Kd.o], fun μ => of_Ev ?_⟩
    show Ev (b_Row_item (R_wr f) _ _) _
    unfold b_Row_item
    obtain ⟨fn, e1, e2⟩ := h
    simp only [Kd.o, Kd.os_map] at e1 e2 ⊢
    by_cases c : l.length < 2
    · have c2 : (l.length : Int) < 2 := by omega
      simp -dsimp [c2, e1]
      exact Ev_of (e2 μ) (by simp [itW, c])
    · have c2 : ¬ (l.length : Int) < 2 := by omega
      simp -dsimp [c2, e1]
      refine Ev_of (e2 μ) ?_
      simp -dsimp [itW, c]; omega
  | pick l =>
    refine ⟨R_wr (f + 1) 5, fun μ => by simp [Kd.o], fun μ => of_Ev ?_⟩
    show Ev (b_Pick_item (R_wr f) _ _) _
    unfold b_Pick_item
    obtain ⟨fn, e1, e2⟩ := h
    simp only [Kd.o, Kd.os_map] at e1 e2 ⊢
    simp -dsimp [e1]
    refine Ev_of (e2 μ) ?_
    simp -dsimp [itW]; omega
  | _ =>
    refine ⟨R_wr (f + 1) 0, fun μ => by simp [Kd.o], fun μ => of_Ev ?_⟩
    show Ev (b_Kind_item (R_wr f) _ _) _
    unfold b_Kind_item
    obtain ⟨fn, e1, e2⟩ := h
    simp -dsimp [e1]
    exact Ev_of (e2 μ) (by simp [itW])
theorem alt_sp {f : Nat} {k : Kd} (hs : k.sz ≤ 900) (h : HasM (tW f) "written" k.o (.str k.wr)) : HasM (tA (f + 1)) "alt" k.o (.str (alW k k.wr)) := by
  have hl := wr_len k hs
  cases k with
  | pick l =>
    refine ⟨R_wr (f + 1) 6, fun μ => by simp [Kd.o], fun μ => of_Ev ?_⟩
    show Ev (b_Pick_alt (R_wr f) _ _) _
    unfold b_Pick_alt
    obtain ⟨fn, e1, e2⟩ := h
    simp only [Kd.o, Kd.os_map] at e1 e2 ⊢
    simp -dsimp [e1]
    refine Ev_of (e2 μ) ?_
    simp -dsimp [alW]; omega
  | _ =>
    refine ⟨R_wr (f + 1) 1, fun μ => by simp [Kd.o], fun μ => of_Ev ?_⟩
    show Ev (b_Kind_alt (R_wr f) _ _) _
    unfold b_Kind_alt
    obtain ⟨fn, e1, e2⟩ := h
    simp -dsimp [e1]
    exact Ev_of (e2 μ) (by simp [alW])
theorem wr_sp : ∀ (n f : Nat) (k : Kd), k.dep < n → 2 * n ≤ f → k.sz ≤ 900 → HasM (tW f) "written" k.o (.str k.wr)
  | 0, f, k, h, _, _ => by omega
  | n + 1, f, k, h, hf, hs => by
    obtain ⟨f, rfl⟩ : ∃ g, f = g + 2 := ⟨f - 2, by omega⟩
    have hl := wr_len k hs
    cases k with
    | word t =>
      simp only [Kd.sz] at hs
      refine ⟨f_Word_written, fun μ => by simp [Kd.o], fun μ => of_Ev ?_⟩
      unfold f_Word_written
      simp -dsimp [Kd.o]
      exact Ev_of (quoted_sp t (by omega) μ) (by simp [Kd.wr])
    | run u lo hi =>
      simp only [Kd.sz] at hs
      have hq := qd_len u
      have l1 := strI_len9 lo (by omega)
      have l2 := strI_len9 hi (by omega)
      have b1 : lo.log2 < 1920 := by
        have := Nat.log2_le_self lo
        omega
      have b2 : hi.log2 < 1920 := by
        have := Nat.log2_le_self hi
        omega
      refine ⟨f_Run_written, fun μ => by simp [Kd.o], fun μ => of_Ev ?_⟩
      unfold f_Run_written
      simp -dsimp [Kd.o]
      refine Ev_of (quoted_sp u (by omega) μ) ?_
      simp -dsimp [b1, b2, Kd.wr]
      omega
    | row l =>
      simp only [Kd.sz] at hs
      simp only [Kd.dep] at h
      have h1 := its_len l (by omega)
      have h2 := joinLlen [32] (Kd.its l)
      have h3 := Kd.szs_len l
      refine ⟨R_wr (f + 2) 2, fun μ => by simp [Kd.o], fun μ => of_Ev ?_⟩
      show Ev (b_Row_written (R_wr (f + 1)) _ _) _
      unfold b_Row_written
      simp only [Kd.o, Kd.os_map]
      simp -dsimp
      refine Ev_map1 (os := l.map Kd.o) (ws := (Kd.its l).map D.str) (by simp -dsimp) (by simp [Kd.its_map]) (by simp; omega) (fun i o v a e μ' => ?_) ?_
      · simp only [Kd.its_map, List.getElem?_map] at a e
        cases hi : l[i]? with
        | none => rw [hi] at a; cases a
        | some k =>
          rw [hi] at a e; cases a; cases e
          have hm := List.mem_of_getElem? hi
          have hd := Kd.dep_mem hm
          have hz := Kd.sz_mem hm
          exact (item_sp (by omega) (wr_sp n f k (by omega) (by omega) (by omega))).ev (by simp [wipeZ]) (by simp)
      · have h4 : (Kd.its l).length = l.length := by rw [Kd.its_map, List.length_map]
        have hj : ((Kd.its l).map List.length).sum + (Kd.its l).length ≤ 16777216 := by omega
        simp only [List.length_cons, List.length_nil] at h2
        by_cases c : l.length < 2
        · have c2 : (l.length : Int) < 2 := by omega
          simp -dsimp [c2, Kd.wr, c, hj]
          omega
        · have c2 : ¬ (l.length : Int) < 2 := by omega
          simp -dsimp [c2, Kd.wr, c, hj]
    | pick l =>
      simp only [Kd.sz] at hs
      simp only [Kd.dep] at h
      have h1 := als_len l (by omega)
      have h2 := joinLlen [32, 124, 32] (Kd.als l)
      have h3 := Kd.szs_len l
      refine ⟨R_wr (f + 2) 4, fun μ => by simp [Kd.o], fun μ => of_Ev ?_⟩
      show Ev (b_Pick_written (R_wr (f + 1)) _ _) _
      unfold b_Pick_written
      simp only [Kd.o, Kd.os_map]
      simp -dsimp
      refine Ev_map1 (os := l.map Kd.o) (ws := (Kd.als l).map D.str) (by simp -dsimp) (by simp [Kd.als_map]) (by simp; omega) (fun i o v a e μ' => ?_) ?_
      · simp only [Kd.als_map, List.getElem?_map] at a e
        cases hi : l[i]? with
        | none => rw [hi] at a; cases a
        | some k =>
          rw [hi] at a e; cases a; cases e
          have hm := List.mem_of_getElem? hi
          have hd := Kd.dep_mem hm
          have hz := Kd.sz_mem hm
          exact (alt_sp (by omega) (wr_sp n f k (by omega) (by omega) (by omega))).ev (by simp [wipeZ]) (by simp)
      · have h4 : (Kd.als l).length = l.length := by rw [Kd.als_map, List.length_map]
        have hj : ((Kd.als l).map List.length).sum + (Kd.als l).length * 3 ≤ 16777216 := by omega
        simp -dsimp [Kd.wr, hj]
    | many k b =>
      simp only [Kd.sz] at hs
      simp only [Kd.dep] at h
      have hq := qd_len b
      have hk := wr_len k (by omega)
      refine ⟨R_wr (f + 2) 7, fun μ => by simp [Kd.o], fun μ => of_Ev ?_⟩
      show Ev (b_Many_written (R_wr (f + 1)) _ _) _
      unfold b_Many_written
      obtain ⟨fn, f1, f2⟩ := wr_sp n (f + 1) k (by omega) (by omega) (by omega)
      simp only [Kd.o]
      by_cases e : b = []
      · subst e
        simp -dsimp [f1]
        refine Ev_of (f2 μ) ?_
        simp -dsimp [Kd.wr]
        omega
      · simp -dsimp [f1, e]
        refine Ev_of (f2 μ) ?_
        simp -dsimp
        refine ⟨by omega, by omega, ?_⟩
        refine Ev_of (quoted_sp b (by omega) μ) ?_
        simp -dsimp [Kd.wr, e]
        omega
/-! ## the program's things of the law's tuples -/
theorem real_sp : ∀ (n f : Nat) (k : Kd), k.dep < n → n ≤ f → k.sz ≤ 900 → ∀ μ, R_real f 0 [.d k.t] μ = some (.ok (.d k.o), μ)
  | 0, f, k, h, _, _, μ => by omega
  | n + 1, f, k, h, hf, hs, μ => by
    obtain ⟨f, rfl⟩ : ∃ g, f = g + 1 := ⟨f - 1, by omega⟩
    apply of_Ev
    show Ev (b_L_real (R_real f) _ _) _
    unfold b_L_real
    cases k with
    | word t =>
      simp -dsimp [Kd.t, Kd.o]
      refine Ev_frzmk [("text", .str t)] (by simp; rfl) (fun μ0 => ?_) (by simp [Kd.o])
      unfold f_Word_init
      simp -dsimp
    | run u lo hi =>
      simp -dsimp [Kd.t, Kd.o]
      refine Ev_frzmk [("signs", .str u), ("least", .int lo), ("most", .int hi)] (by simp; rfl) (fun μ0 => ?_) (by simp [Kd.o])
      unfold f_Run_init
      simp -dsimp
    | row l =>
      simp only [Kd.sz] at hs
      simp only [Kd.dep] at h
      have h3 := Kd.szs_len l
      simp only [Kd.t, Kd.o, Kd.os_map, Kd.ts_map]
      simp -dsimp
      refine Ev_frzmk [("parts", .lst (l.map Kd.o))] (as := [.d (.lst (l.map Kd.o))]) ?_ (fun μ0 => ?_) ?_
      · simp -dsimp
        refine Ev_map1 (os := l.map Kd.t) (ws := l.map Kd.o) (by simp -dsimp) (by simp) (by simp; omega) (fun i o v a e μ' => ?_) ?_
        · simp only [List.getElem?_map] at a e
          cases hi : l[i]? with
          | none => rw [hi] at a; cases a
          | some k =>
            rw [hi] at a e; cases a; cases e
            have hm := List.mem_of_getElem? hi
            have hd := Kd.dep_mem hm
            have hz := Kd.sz_mem hm
            simp -dsimp [wipeZ]
            exact Ev_of (real_sp n f k (by omega) (by omega) (by omega) μ') (by simp)
        · simp -dsimp
      · unfold f_Row_init
        simp -dsimp
      · simp -dsimp [Kd.os_map]
    | pick l =>
      simp only [Kd.sz] at hs
      simp only [Kd.dep] at h
      have h3 := Kd.szs_len l
      simp only [Kd.t, Kd.o, Kd.os_map, Kd.ts_map]
      simp -dsimp
      refine Ev_frzmk [("parts", .lst (l.map Kd.o))] (as := [.d (.lst (l.map Kd.o))]) ?_ (fun μ0 => ?_) ?_
      · simp -dsimp
        refine Ev_map1 (os := l.map Kd.t) (ws := l.map Kd.o) (by simp -dsimp) (by simp) (by simp; omega) (fun i o v a e μ' => ?_) ?_
        · simp only [List.getElem?_map] at a e
          cases hi : l[i]? with
          | none => rw [hi] at a; cases a
          | some k =>
            rw [hi] at a e; cases a; cases e
            have hm := List.mem_of_getElem? hi
            have hd := Kd.dep_mem hm
            have hz := Kd.sz_mem hm
            simp -dsimp [wipeZ]
            exact Ev_of (real_sp n f k (by omega) (by omega) (by omega) μ') (by simp)
        · simp -dsimp
      · unfold f_Pick_init
        simp -dsimp
      · simp -dsimp [Kd.os_map]
    | many k b =>
      simp only [Kd.sz] at hs
      simp only [Kd.dep] at h
      simp only [Kd.t, Kd.o]
      simp -dsimp
      refine Ev_frzmk [("part", k.o), ("between", .str b)] (as := [.d k.o, .d (.str b)]) ?_ (fun μ0 => ?_) (by simp)
      · simp -dsimp
        exact Ev_of (real_sp n f k (by omega) (by omega) (by omega) _) (by simp)
      · unfold f_Many_init
        simp -dsimp
/-! ## drawn kinds whose parts share signs -/
inductive DrLeaf : List Nat → Kd → List Nat → Prop
  | word (t r : List Nat) : 1 ≤ t.length → t.length ≤ 3 → DrLeaf (t ++ r) (.word t) r
  | run (s r : List Nat) (lo hi : Nat) : 1 ≤ s.length → s.length ≤ 3 → lo ≤ 2 → lo ≤ hi → 1 ≤ hi → hi ≤ 5 → DrLeaf (s ++ r) (.run s lo hi) r
  | rw1 (a b c : Nat) (r : List Nat) (lo hi : Nat) : lo ≤ 2 → lo + 1 ≤ hi → hi ≤ lo + 4 → DrLeaf (a :: b :: c :: r) (.row [.run [a, b] lo hi, .word [b, c]]) r
  | rw2 (a b c : Nat) (r : List Nat) (lo hi : Nat) : lo ≤ 2 → lo + 1 ≤ hi → hi ≤ lo + 4 → DrLeaf (a :: b :: c :: r) (.row [.run [a, b] lo hi, .word [b]]) r
  | rw3 (a b c : Nat) (r : List Nat) (lo hi : Nat) : lo ≤ 2 → lo + 1 ≤ hi → hi ≤ lo + 4 → DrLeaf (a :: b :: c :: r) (.row [.run [a, b] lo hi, .run [b, c] 2 2]) r
  | pk4 (a b c : Nat) (r : List Nat) (lo hi : Nat) : lo ≤ 2 → lo + 1 ≤ hi → hi ≤ lo + 4 → DrLeaf (a :: b :: c :: r) (.pick [.row [.run [a, b] lo hi, .word [c]], .row [.run [a, b] lo hi, .word [c, c]], .row [.run [a, b] lo hi, .word [c, a]]]) r
  | pk5 (a b c : Nat) (r : List Nat) : DrLeaf (a :: b :: c :: r) (.pick [.word [a], .word [a, b], .word [b], .word [a, b, c]]) r
  | mn6 (a b c : Nat) (r x : List Nat) : (x = [] ∨ x = [b]) → DrLeaf (a :: b :: c :: r) (.many (.run [a, b] 2 2) x) r
  | mn7 (a b c : Nat) (r : List Nat) : DrLeaf (a :: b :: c :: r) (.many (.row [.run [a, b] 1 4, .word [c]]) []) r
  | pk8 (a b c : Nat) (r : List Nat) : DrLeaf (a :: b :: c :: r) (.pick [.many (.word [a]) [], .row [.many (.word [a]) [], .word [b]]]) r
mutual
inductive DrC : Nat → List Nat → Kd → List Nat → Prop
  | leaf {d : Nat} {p r : List Nat} {k : Kd} : DrLeaf p k r → DrC d p k r
  | row {d : Nat} {p r : List Nat} {l : List Kd} : DrL d p l r → l.length ≤ 3 → DrC (d + 1) p (.row l) r
  | pick {d : Nat} {p q r : List Nat} {k : Kd} {l : List Kd} : DrC d p k q → DrO d q l r → 1 ≤ l.length → l.length ≤ 2 → DrC (d + 1) p (.pick (k :: l)) r
  | manyR {d : Nat} {b r : List Nat} {x y hi : Nat} : 1 ≤ b.length → b.length ≤ 2 → 1 ≤ hi → hi ≤ 4 → DrC (d + 1) (b ++ x :: y :: r) (.many (.run [x, y] 1 hi) b) r
  | many {d : Nat} {b q r : List Nat} {x : Nat} {k : Kd} : b.length ≤ 2 → DrC d q k r → DrC (d + 1) (b ++ x :: q) (.many (.row [.word [x], k]) b) r
inductive DrL : Nat → List Nat → List Kd → List Nat → Prop
  | nil {d : Nat} {p : List Nat} : DrL d p [] p
  | cons {d : Nat} {p q r : List Nat} {k : Kd} {l : List Kd} : DrC d p k q → DrL d q l r → DrL d p (k :: l) r
inductive DrO : Nat → List Nat → List Kd → List Nat → Prop
  | nil {d : Nat} {p : List Nat} : DrO d p [] p
  | cons {d : Nat} {x : Nat} {p q r : List Nat} {k : Kd} {l : List Kd} : DrC d p k q → DrO d q l r → DrO d (x :: p) (.row [.word [x], k] :: l) r
end
theorem DrL.snoc {d : Nat} {p q r : List Nat} {l : List Kd} {k : Kd} (h : DrL d p l q) (h2 : DrC d q k r) : DrL d p (l ++ [k]) r := by
  match h with
  | .nil => exact .cons h2 .nil
  | .cons a b => exact .cons a (b.snoc h2)
theorem DrO.snoc {d : Nat} {p q r : List Nat} {l : List Kd} {x : Nat} {k : Kd} (h : DrO d p l (x :: q)) (h2 : DrC d q k r) : DrO d p (l ++ [.row [.word [x], k]]) r := by
  generalize e : x :: q = y at h
  match h with
  | .nil => subst e; exact .cons h2 .nil
  | .cons a b => subst e; exact .cons a (b.snoc h2)
/-- signs used, size, depth -/
def useC : Nat → Nat
  | 0 => 3
  | d + 1 => 3 * useC d + 3
def szC : Nat → Nat
  | 0 => 60
  | d + 1 => 3 * szC d + 20
theorem useC_pos (d : Nat) : 3 ≤ useC d := by
  induction d with
  | zero => exact Nat.le_refl _
  | succ d ih => simp only [useC]; omega
theorem szC_pos (d : Nat) : 60 ≤ szC d := by
  induction d with
  | zero => exact Nat.le_refl _
  | succ d ih => simp only [szC]; omega
theorem leaf_ok {p r : List Nat} {k : Kd} (h : DrLeaf p k r) : p.length ≤ r.length + 3 ∧ k.sz ≤ 60 ∧ k.dep ≤ 3 ∧ r.length ≤ p.length := by
  cases h with
  | mn6 a b c r x hx => rcases hx with rfl | rfl <;> simp [Kd.sz, Kd.szs, Kd.dep, Kd.deps] <;> omega
  | _ => simp [Kd.sz, Kd.szs, Kd.dep, Kd.deps] <;> omega
mutual
theorem cl_ok : ∀ {d : Nat} {p r : List Nat} {k : Kd}, DrC d p k r → p.length ≤ r.length + useC d ∧ k.sz ≤ szC d ∧ k.dep ≤ 2 * d + 3 ∧ r.length ≤ p.length
  | d, p, r, k, .leaf h => by
    have := leaf_ok h
    have := useC_pos d
    have := szC_pos d
    omega
  | _, _, _, _, @DrC.row d p r l h hl => by
    obtain ⟨h1, h2, h3, h4⟩ := cls_ok h
    have := Nat.mul_le_mul_right (useC d) hl
    have := Nat.mul_le_mul_right (szC d + 1) hl
    simp only [useC, szC, Kd.sz, Kd.dep]
    omega
  | _, _, _, _, @DrC.pick d p q r k l h h' hl hl' => by
    obtain ⟨h1, h2, h3, h4⟩ := cl_ok h
    obtain ⟨i1, i2, i3, i4⟩ := ops_ok h'
    have := Nat.mul_le_mul_right (useC d + 1) hl'
    have := Nat.mul_le_mul_right (szC d + 6) hl'
    simp only [useC, szC, Kd.sz, Kd.szs, Kd.dep, Kd.deps]
    omega
  | _, _, _, _, @DrC.manyR d b r x y hi h1 h2 h3 h4 => by
    have := useC_pos d
    have := szC_pos d
    simp [useC, szC, Kd.sz, Kd.dep]
    omega
  | _, _, _, _, @DrC.many d b q r x k h1 h => by
    obtain ⟨i1, i2, i3, i4⟩ := cl_ok h
    have := useC_pos d
    have := szC_pos d
    simp [useC, szC, Kd.sz, Kd.szs, Kd.dep, Kd.deps]
    omega
theorem cls_ok : ∀ {d : Nat} {p r : List Nat} {l : List Kd}, DrL d p l r → p.length ≤ r.length + l.length * useC d ∧ Kd.szs l ≤ l.length * (szC d + 1) ∧ Kd.deps l ≤ 2 * d + 3 ∧ r.length ≤ p.length
  | _, _, _, _, .nil => by simp [Kd.szs, Kd.deps]
  | _, _, _, _, @DrL.cons d p q r k l h h' => by
    obtain ⟨h1, h2, h3, h4⟩ := cl_ok h
    obtain ⟨i1, i2, i3, i4⟩ := cls_ok h'
    simp only [Kd.szs, Kd.deps, List.length_cons, Nat.add_mul, Nat.one_mul]
    omega
theorem ops_ok : ∀ {d : Nat} {p r : List Nat} {l : List Kd}, DrO d p l r → p.length ≤ r.length + l.length * (useC d + 1) ∧ Kd.szs l ≤ l.length * (szC d + 6) ∧ Kd.deps l ≤ 2 * d + 4 ∧ r.length ≤ p.length
  | _, _, _, _, .nil => by simp [Kd.szs, Kd.deps]
  | _, _, _, _, @DrO.cons d x p q r k l h h' => by
    obtain ⟨h1, h2, h3, h4⟩ := cl_ok h
    obtain ⟨i1, i2, i3, i4⟩ := ops_ok h'
    simp only [Kd.szs, Kd.sz, Kd.deps, Kd.dep, List.length_cons, List.length_nil, Nat.add_mul, Nat.one_mul]
    omega
end
/-! ## the drawing, walked: cell 0 the place, then the signs left -/
def PS (t1 t2 : Mu) (b : Int) (p : List Nat) : Mu := atc b :: (t1 ++ .lst [.d (.str p)] :: t2)
section
variable {t1 t2 v u : Mu} {b b' : Int} {p p' : List Nat}
@[simp] theorem PS_app : PS t1 t2 b p ++ u = PS t1 (t2 ++ u) b p := by simp [PS]
@[simp] theorem PS_len : (PS t1 t2 b p).length = t1.length + t2.length + 2 := by simp [PS]; omega
@[simp] theorem PS_p : (PS t1 t2 b p)[t1.length + 1]? = some (.lst [.d (.str p)]) := by
  unfold PS; rw [List.getElem?_cons_succ, List.getElem?_append_right (Nat.le_refl _)]; simp
@[simp] theorem PS_setp : (PS t1 t2 b p).set (t1.length + 1) (.lst [.d (.str p')]) = PS t1 t2 b p' := by
  unfold PS; rw [List.set_cons_succ, List.set_append_right _ _ (Nat.le_refl _)]; simp
theorem PS_at {c : Cell} {n : Nat} (h : n = t1.length + t2.length + 2) : (PS t1 (t2 ++ c :: v) b p)[n]? = some c := by
  subst h; unfold PS
  rw [show t1.length + t2.length + 2 = (t1.length + t2.length + 1) + 1 by omega, List.getElem?_cons_succ, List.getElem?_append_right (by omega), show t1.length + t2.length + 1 - t1.length = t2.length + 1 by omega, List.getElem?_cons_succ, List.getElem?_append_right (Nat.le_refl _)]; simp
theorem PS_set {c c' : Cell} {n : Nat} (h : n = t1.length + t2.length + 2) : (PS t1 (t2 ++ c :: v) b p).set n c' = PS t1 (t2 ++ c' :: v) b p := by
  subst h; unfold PS
  rw [show t1.length + t2.length + 2 = (t1.length + t2.length + 1) + 1 by omega, List.set_cons_succ, List.set_append_right _ _ (by omega), show t1.length + t2.length + 1 - t1.length = t2.length + 1 by omega, List.set_cons_succ, List.set_append_right _ _ (Nat.le_refl _)]; simp
@[simp high] theorem PS_at1 {c : Cell} : (PS t1 (t2 ++ c :: v) b p)[t1.length + t2.length + 2]? = some c := PS_at rfl
@[simp high] theorem PS_set1 {c c' : Cell} : (PS t1 (t2 ++ c :: v) b p).set (t1.length + t2.length + 2) c' = PS t1 (t2 ++ c' :: v) b p := PS_set rfl
theorem PS_lk : Lk (PS t1 t2 b p) (PS t1 t2 b' p') := by
  intro i c h
  unfold PS at h ⊢
  cases i with
  | zero => simp at h; subst h; exact .inr rfl
  | succ i =>
    rw [List.getElem?_cons_succ] at h ⊢
    by_cases h1 : i < t1.length
    · rw [List.getElem?_append_left h1] at h ⊢; exact .inl h
    · rw [List.getElem?_append_right (by omega)] at h ⊢
      cases hi : i - t1.length with
      | zero => rw [hi] at h; simp at h; subst h; exact .inr rfl
      | succ j => rw [hi] at h; exact .inl h
@[simp] theorem PS_gc : gcM (PS t1 t2 b p) (PS t1 (t2 ++ u) b' p') = PS t1 t2 b' p' := by
  rw [← PS_app]; exact gc_lk PS_lk (by simp)
@[simp] theorem PS_gc0 : gcM (PS t1 t2 b p) (PS t1 t2 b' p') = PS t1 t2 b' p' := gc_len (by simp)
end
theorem drwP (ns : List Int) (hn : ns.length ≤ 63) {t1 t2 : Mu} {b many : Int} {p : List Nat} {P : Except Exn Sv → Mu → Prop} (b0 : 0 ≤ b ∧ b < 1000000000) (h0 : 0 < many) (k : ∀ v : Int, 0 ≤ v → v < many → P (.ok (.d (.int v))) (PS t1 t2 (b + 1) p)) : Ev (f_L_draw [.d (.lst (ns.map D.int)), .c 0, .d (.int many)] (PS t1 t2 b p)) P := drw ns b0 h0 k hn
theorem taken_sp {t1 t2 : Mu} {b : Int} {p : List Nat} {n : Int} {P : Except Exn Sv → Mu → Prop} (h0 : 0 ≤ n) (hp : p.length ≤ 1000) (k : P (.ok (.d (.str (p.take n.toNat)))) (PS t1 t2 b (p.drop n.toNat))) : Ev (f_L_taken [.c (t1.length + 1), .d (.int n)] (PS t1 t2 b p)) P := by
  unfold f_L_taken
  simp -dsimp
  rw [cutL_to _ _ h0, cutL_from _ _ h0]
  exact ⟨by omega, k⟩
abbrev everyL : List Nat := [32, 33, 34, 35, 36, 38, 39, 40, 41, 42, 43, 44, 45, 46, 47, 48, 49, 50, 51, 52, 53, 54, 55, 56, 57, 58, 59, 60, 61, 62, 63, 64, 65, 66, 67, 68, 69, 70, 71, 72, 73, 74, 75, 76, 77, 78, 79, 80, 81, 82, 83, 84, 85, 86, 87, 88, 89, 90, 91, 92, 93, 94, 95, 96, 97, 98, 99, 100, 101, 102, 103, 104, 105, 106, 107, 108, 109, 110, 111, 112, 113, 114, 115, 116, 117, 118, 119, 120, 121, 122, 123, 124, 125, 126, 10]
def poolL (v w : Nat) : List Nat := (List.range 95).map fun k => everyL.getD ((v + w * k) % 95) 0
theorem poolL_len (v w : Nat) : (poolL v w).length = 95 := by simp [poolL]
theorem every_nodup : everyL.Nodup := by decide +kernel
theorem every_len : everyL.length = 95 := rfl
theorem poolL_nodup (v w : Nat) (hw : w ∈ [1, 2, 3, 7, 23, 44, 61, 94]) : (poolL v w).Nodup := by
  unfold poolL List.Nodup
  rw [List.pairwise_map]
  refine List.Pairwise.imp_of_mem ?_ List.pairwise_lt_range
  intro i j hi hj hij e1
  have hi := List.mem_range.1 hi
  have hj := List.mem_range.1 hj
  have b1 : (v + w * i) % 95 < everyL.length := by rw [every_len]; omega
  have b2 : (v + w * j) % 95 < everyL.length := by rw [every_len]; omega
  rw [List.getD_eq_getElem?_getD, List.getD_eq_getElem?_getD, List.getElem?_eq_getElem b1, List.getElem?_eq_getElem b2] at e1
  have e2 : (v + w * i) % 95 = (v + w * j) % 95 := by
    have hp := List.pairwise_iff_getElem.1 every_nodup
    simp only [Option.getD_some] at e1
    rcases Nat.lt_trichotomy ((v + w * i) % 95) ((v + w * j) % 95) with h | h | h
    · exact absurd e1 (hp _ _ b1 b2 h)
    · exact h
    · exact absurd e1.symm (hp _ _ b2 b1 h)
  simp only [List.mem_cons, List.not_mem_nil, or_false] at hw
  rcases hw with rfl | rfl | rfl | rfl | rfl | rfl | rfl | rfl <;> omega
theorem pool_sp (ns : List Int) (hn : ns.length ≤ 63) {b : Int} {μ : Mu} {P : Except Exn Sv → Mu → Prop} (b0 : 0 ≤ b ∧ b + 10 < 1000000000) (k : ∀ (p : List Nat), p.length = 95 → p.Nodup → P (.ok (.c (μ.length + 1))) (PS μ [] (b + 2) p)) : Ev (f_L_pool [.d (.lst (ns.map D.int)), .c 0] (atc b :: μ)) P := by
  unfold f_L_pool
  simp -dsimp
  refine drw ns (by omega) (by decide) (fun v v0 v1 => ?_) hn
  simp -dsimp
  refine drw ns (by omega) (by decide) (fun w w0 w1 => ?_) hn
  simp -dsimp
  obtain ⟨v, rfl⟩ := Int.eq_ofNat_of_zero_le v0
  obtain ⟨c, ec, _, mc⟩ := atI_of (l := [D.int 1, D.int 2, D.int 3, D.int 7, D.int 23, D.int 44, D.int 61, D.int 94]) w0 (by simpa using w1)
  obtain ⟨w', rfl, hw⟩ : ∃ w' : Nat, c = .int w' ∧ w' ∈ [1, 2, 3, 7, 23, 44, 61, 94] := by
    simp only [List.mem_cons, List.not_mem_nil, or_false] at mc
    rcases mc with rfl | rfl | rfl | rfl | rfl | rfl | rfl | rfl
    · exact ⟨1, rfl, by simp⟩
    · exact ⟨2, rfl, by simp⟩
    · exact ⟨3, rfl, by simp⟩
    · exact ⟨7, rfl, by simp⟩
    · exact ⟨23, rfl, by simp⟩
    · exact ⟨44, rfl, by simp⟩
    · exact ⟨61, rfl, by simp⟩
    · exact ⟨94, rfl, by simp⟩
  have hw94 : w' ≤ 94 := by
    simp only [List.mem_cons, List.not_mem_nil, or_false] at hw; omega
  refine ⟨_, ec, ?_⟩
  rw [← lcW_wk]
  refine Ev_of (lcWm (α := Nat) (List.range 95) (fun k => .d (.int (k : Nat))) ?_ (by simp) (fun k => .str [everyL.getD ((v + w' * k) % 95) 0]) ?_) ?_
  · apply of_Ev
    simp -dsimp
    rfl
  · intro x μ' hx
    refine ⟨_, rfl, of_Ev ?_⟩
    simp -dsimp [wipeZ]
    have hx' := List.mem_range.1 hx
    have b1 : (v + w' * x) % 95 < everyL.length := by rw [every_len]; omega
    have e : ((v : Int) + (w' : Int) * (x : Int)) % 95 = (((v + w' * x) % 95 : Nat) : Int) := by push_cast; rfl
    rw [e]
    refine ⟨.inl ⟨by omega, by omega⟩, Z.atI_nat ?_⟩
    rw [List.getElem?_eq_getElem b1]; rfl
  · have e : (List.range 95).map (fun k => D.str [everyL.getD ((v + w' * k) % 95) 0]) = (poolL v w').map fun c => .str [c] := by simp [poolL]
    rw [e]
    simp -dsimp [mJoin_c _ (show (poolL v w').length ≤ 16777216 by rw [poolL_len]; omega)]
    have := k (poolL v w') (poolL_len v w') (poolL_nodup v w' hw)
    rw [show b + 1 + 1 = b + 2 by omega]
    exact this
theorem bTuple_c {μ : Mu} {n : Nat} {l : List D} (h : μ[n]? = some (.lst (l.map Sv.d))) : bTuple [.c n] μ = okz (.tup l) μ := by
  simp [bTuple, h, toDs_map]
theorem ix_cell {μ : Mu} {n : Nat} {X : List Sv} {q : Int} {P : Except Exn Sv → Mu → Prop} (h : μ[n]? = some (.lst X)) (q0 : 0 ≤ q) (q1 : q < X.length) (k : ∀ y ∈ X, P (.ok y) μ) : Ev (oIx (.c n) (.d (.int q)) μ) P := by
  obtain ⟨y, ey, _, my⟩ := atI_of (l := X) q0 q1
  simp -dsimp [h, ey]
  exact k y my
theorem tangled_sp (ns : List Int) (hn : ns.length ≤ 63) {t1 t2 : Mu} {b : Int} {p : List Nat} {P : Except Exn Sv → Mu → Prop} (b0 : 0 ≤ b ∧ b + 5 < 1000000000) (hp : 3 ≤ p.length ∧ p.length ≤ 1000) (kk : ∀ (k : Kd) (r : List Nat) (b' : Int), DrLeaf p k r → b ≤ b' → b' ≤ b + 5 → P (.ok (.d k.t)) (PS t1 t2 b' r)) : Ev (f_L_tangled [.d (.lst (ns.map D.int)), .c 0, .c (t1.length + 1)] (PS t1 t2 b p)) P := by
  obtain ⟨x, y, z, r, rfl⟩ : ∃ x y z r, p = x :: y :: z :: r := by
    match p, hp with
    | x :: y :: z :: r, _ => exact ⟨x, y, z, r, rfl⟩
    | [x, y], h => simp at h
    | [x], h => simp at h
    | [], h => simp at h
  unfold f_L_tangled
  simp -dsimp
  refine taken_sp (by decide) hp.2 ?_
  simp -dsimp

  refine drwP ns hn (by omega) (by decide) fun lo l0 l1 => ?_
  simp -dsimp
  refine drwP ns hn (by omega) (by decide) fun w w0 w1 => ?_
  simp -dsimp
  obtain ⟨lo, rfl⟩ := Int.eq_ofNat_of_zero_le l0
  obtain ⟨w, rfl⟩ := Int.eq_ofNat_of_zero_le w0
  refine Ev_map1 (os := [D.str [z], .str [z, z], .str [z, x]]) (ws := [D.str [z], .str [z, z], .str [z, x]].map fun d => .tup [.str rowN, .tup [.tup [.str runN, .str [x, y], .int lo, .int ((lo : Int) + 1 + w)], .tup [.str wordN, d]]]) ?_ rfl (by simp) (fun i o v' a e μ' => ?_) ?_
  · simp -dsimp
  · rw [List.getElem?_map, a] at e
    cases e
    simp -dsimp [wipeZ]
  simp -dsimp
  refine drwP ns hn (by omega) (by decide) fun q q0 q1 => ?_
  simp -dsimp
  obtain ⟨c, ec, _, mc⟩ := atI_of (l := [D.str [], .str [y]]) q0 (by simpa using q1)
  obtain ⟨s, rfl, hs⟩ : ∃ s, c = .str s ∧ (s = [] ∨ s = [y]) := by
    simp at mc
    rcases mc with rfl | rfl
    · exact ⟨_, rfl, .inl rfl⟩
    · exact ⟨_, rfl, .inr rfl⟩
  refine ⟨_, ec, ?_⟩
  refine drwP ns hn (by omega) (by decide) fun q q0 q1 => ?_
  simp only [okc_ok]
  refine ix_cell PS_at1 q0 (by simpa using q1) fun v hv => ?_
  have pos : ∀ k, DrLeaf (x :: y :: z :: r) k r → P (.ok (.d k.t)) (PS t1 t2 (b + 1 + 1 + 1 + 1) r) := fun k h => kk k _ _ h (by omega) (by omega)
  simp only [List.mem_cons, List.not_mem_nil, or_false] at hv
  rcases hv with rfl | rfl | rfl | rfl | rfl | rfl | rfl | rfl
  · have := pos _ (.rw1 x y z r lo (lo + 1 + w) (by omega) (by omega) (by omega))
    simpa [Kd.t, Kd.ts] using this
  · have := pos _ (.rw2 x y z r lo (lo + 1 + w) (by omega) (by omega) (by omega))
    simpa [Kd.t, Kd.ts] using this
  · have := pos _ (.rw3 x y z r lo (lo + 1 + w) (by omega) (by omega) (by omega))
    simpa [Kd.t, Kd.ts] using this
  · have := pos _ (.pk4 x y z r lo (lo + 1 + w) (by omega) (by omega) (by omega))
    simpa [Kd.t, Kd.ts] using this
  · have := pos _ (.pk5 x y z r)
    simpa [Kd.t, Kd.ts] using this
  · have := pos _ (.mn6 x y z r s hs)
    simpa [Kd.t, Kd.ts] using this
  · have := pos _ (.mn7 x y z r)
    simpa [Kd.t, Kd.ts] using this
  · have := pos _ (.pk8 x y z r)
    simpa [Kd.t, Kd.ts] using this
theorem leaf_sp (ns : List Int) (hn : ns.length ≤ 63) {t1 t2 : Mu} {b : Int} {p : List Nat} {P : Except Exn Sv → Mu → Prop} (b0 : 0 ≤ b ∧ b + 10 < 1000000000) (hp : 3 ≤ p.length ∧ p.length ≤ 1000) (kk : ∀ (k : Kd) (r : List Nat) (b' : Int), DrLeaf p k r → b ≤ b' → b' ≤ b + 10 → P (.ok (.d k.t)) (PS t1 t2 b' r)) : Ev (f_L_leaf [.d (.lst (ns.map D.int)), .c 0, .c (t1.length + 1)] (PS t1 t2 b p)) P := by
  unfold f_L_leaf
  simp -dsimp
  refine drwP ns hn (by omega) (by decide) fun v v0 v1 => ?_
  simp -dsimp
  split
  · refine tangled_sp ns hn (by omega) hp fun k r b' h1 h2 h3 => ?_
    simp -dsimp
    exact kk _ _ _ h1 (by omega) (by omega)
  · refine drwP ns hn (by omega) (by decide) fun w w0 w1 => ?_
    simp -dsimp
    refine taken_sp (by omega) hp.2 ?_
    simp -dsimp
    refine drwP ns hn (by omega) (by decide) fun u u0 u1 => ?_
    simp -dsimp
    have hw : (1 + w).toNat ≤ 3 := by omega
    have hw1 : 1 ≤ (1 + w).toNat := by omega
    have hlt : (p.take (1 + w).toNat).length = (1 + w).toNat := List.length_take_of_le (by omega)
    split
    · refine kk (.word (p.take (1 + w).toNat)) _ _ ?_ (by omega) (by omega)
      have := DrLeaf.word (p.take (1 + w).toNat) (p.drop (1 + w).toNat) (by omega) (by omega)
      rwa [List.take_append_drop] at this
    · refine drwP ns hn (by omega) (by decide) fun lo l0 l1 => ?_
      simp -dsimp
      refine drwP ns hn (by omega) (by decide) fun m m0 m1 => ?_
      simp -dsimp
      obtain ⟨lo, rfl⟩ := Int.eq_ofNat_of_zero_le l0
      obtain ⟨m, rfl⟩ := Int.eq_ofNat_of_zero_le m0
      have hm : (max 1 ((lo : Int) + (m : Int))) = ((max 1 (lo + m) : Nat) : Int) := by omega
      rw [hm]
      refine kk (.run (p.take (1 + w).toNat) lo (max 1 (lo + m))) _ _ ?_ (by omega) (by omega)
      have := DrLeaf.run (p.take (1 + w).toNat) (p.drop (1 + w).toNat) lo (max 1 (lo + m)) (by omega) (by omega) (by omega) (by omega) (by omega) (by omega)
      rwa [List.take_append_drop] at this
/-- draws used -/
def useD : Nat → Nat
  | 0 => 20
  | d + 1 => 3 * useD d + 20
theorem useD_pos (d : Nat) : 20 ≤ useD d := by
  induction d with
  | zero => exact Nat.le_refl _
  | succ d ih => simp only [useD]; omega
section
variable {t1 t2 v u : Mu} {b b' x x' : Int} {p p' : List Nat}
theorem PS_lk2 : Lk (PS t1 (t2 ++ atc x :: v) b p) (PS t1 (t2 ++ atc x' :: v) b' p') := by
  intro i c h
  unfold PS at h ⊢
  cases i with
  | zero => simp at h; subst h; exact .inr rfl
  | succ i =>
    rw [List.getElem?_cons_succ] at h ⊢
    by_cases h1 : i < t1.length
    · rw [List.getElem?_append_left h1] at h ⊢; exact .inl h
    · rw [List.getElem?_append_right (by omega)] at h ⊢
      cases hi : i - t1.length with
      | zero => rw [hi] at h; simp at h; subst h; exact .inr rfl
      | succ j =>
        rw [hi, List.getElem?_cons_succ] at h
        rw [List.getElem?_cons_succ]
        by_cases h2 : j < t2.length
        · rw [List.getElem?_append_left h2] at h ⊢; exact .inl h
        · rw [List.getElem?_append_right (by omega)] at h ⊢
          cases hj : j - t2.length with
          | zero => rw [hj] at h; simp at h; subst h; exact .inr rfl
          | succ k => rw [hj] at h; exact .inl h
@[simp high] theorem PS_gc2 : gcM (PS t1 (t2 ++ atc x :: v) b p) (PS t1 (t2 ++ atc x' :: (v ++ u)) b' p') = PS t1 (t2 ++ atc x' :: v) b' p' := by
  have : PS t1 (t2 ++ atc x' :: (v ++ u)) b' p' = PS t1 (t2 ++ atc x' :: v) b' p' ++ u := by simp
  rw [this]; exact gc_lk PS_lk2 (by simp)
@[simp high] theorem PS_gc3 : gcM (PS t1 (t2 ++ atc x :: v) b p) (PS t1 (t2 ++ atc x' :: v) b' p') = PS t1 (t2 ++ atc x' :: v) b' p' := gc_len (by simp)
end
theorem clear_sp (ns : List Int) (hn : ns.length ≤ 63) : ∀ (d f : Nat), 2 * d + 2 ≤ f → ∀ {t1 t2 v : Mu} {b room : Int} {p : List Nat} {P : Except Exn Sv → Mu → Prop}, 0 ≤ b ∧ b + useD d < 1000000000 → useC d ≤ p.length ∧ p.length ≤ 1000 →
    (∀ (k : Kd) (r : List Nat) (b' room' : Int), DrC d p k r → b ≤ b' → b' ≤ b + useD d → P (.ok (.d k.t)) (PS t1 (t2 ++ atc room' :: v) b' r)) →
    Ev (R_clr f 1 [.d (.lst (ns.map D.int)), .c 0, .c (t1.length + 1), .d (.int ((d : Int) + 1)), .c (t1.length + t2.length + 2)] (PS t1 (t2 ++ atc room :: v) b p)) P
  | d, f, hf, t1, t2, v, b, room, p, P, hb, hp, kk => by
    obtain ⟨f, rfl⟩ : ∃ g, f = g + 1 := ⟨f - 1, by omega⟩
    show Ev (b_L_clear (R_clr f) _ _) _
    unfold b_L_clear
    have hu := useC_pos d
    have hd := useD_pos d
    simp -dsimp
    refine drwP ns hn (by omega) (by decide) fun w w0 w1 => ?_
    simp -dsimp
    have leafy : ∀ (room : Int) , Ev (f_L_leaf [.d (.lst (ns.map D.int)), .c 0, .c (t1.length + 1)] (PS t1 (t2 ++ atc room :: v) (b + 1) p)) fun r μ' => ∃ k rr b', r = .ok (.d (Kd.t k)) ∧ μ' = PS t1 (t2 ++ atc room :: v) b' rr ∧ DrLeaf p k rr ∧ b ≤ b' ∧ b' ≤ b + useD d := fun room =>
      leaf_sp ns hn (by omega) (by omega) fun k r b' h1 h2 h3 => ⟨k, r, b', rfl, rfl, h1, by omega, by omega⟩
    cases d with
    | zero =>
      rw [if_pos (by omega)]
      refine (leafy _).imp ?_
      rintro _ _ ⟨k, rr, b', rfl, rfl, h1, h2, h3⟩
      simp -dsimp
      exact kk k rr b' _ (.leaf h1) h2 h3
    | succ d =>
      have hu' := useC_pos d
      have hd' := useD_pos d
      simp only [useC, useD] at hp hb kk
      have leafy2 : ∀ (room : Int) , Ev (f_L_leaf [.d (.lst (ns.map D.int)), .c 0, .c (t1.length + 1)] (PS t1 (t2 ++ atc room :: v) (b + 1) p)) fun r μ' => ∃ k rr b', r = .ok (.d (Kd.t k)) ∧ μ' = PS t1 (t2 ++ atc room :: v) b' rr ∧ DrLeaf p k rr ∧ b ≤ b' ∧ b' ≤ b + ((3 * useD d + 20 : Nat) : Int) := fun room => (leafy room).imp fun e μ ⟨k, rr, b', h1, h2, h3, h4, h5⟩ => ⟨k, rr, b', h1, h2, h3, h4, by simp only [useD] at h5; omega⟩
      clear leafy
      have ih := @clear_sp ns hn d
      have opened : ∀ (g : Nat), 2 * d + 3 ≤ g → ∀ {v : Mu} {b room : Int} {p : List Nat} {P : Except Exn Sv → Mu → Prop}, 0 ≤ b ∧ b + useD d < 1000000000 → useC d + 1 ≤ p.length ∧ p.length ≤ 1000 →
          (∀ (x : Nat) (k : Kd) (q r : List Nat) (b' room' : Int), p = x :: q → DrC d q k r → b ≤ b' → b' ≤ b + useD d → P (.ok (.d (Kd.t (.row [.word [x], k])))) (PS t1 (t2 ++ atc room' :: v) b' r)) →
          Ev (R_clr g 0 [.d (.lst (ns.map D.int)), .c 0, .c (t1.length + 1), .d (.int ((d : Int) + 1 + 1)), .c (t1.length + t2.length + 2)] (PS t1 (t2 ++ atc room :: v) b p)) P := by
        intro g hg v b room p P hb hp kk
        obtain ⟨g, rfl⟩ : ∃ z, g = z + 1 := ⟨g - 1, by omega⟩
        obtain ⟨x, q, rfl⟩ : ∃ x q, p = x :: q := by
          match p, hp with
          | x :: q, _ => exact ⟨x, q, rfl⟩
          | [], h => simp at h
        show Ev (b_L_opened (R_clr g) _ _) _
        unfold b_L_opened
        simp -dsimp
        refine taken_sp (by decide) hp.2 ?_
        simp -dsimp
        simp only [List.length_cons] at hp
        refine ih g (by omega) hb ⟨by omega, by omega⟩ fun k r b' room' h1 h2 h3 => ?_
        simp -dsimp
        have := kk x k q r b' room' rfl h1 h2 h3
        simpa [Kd.t, Kd.ts] using this
      rw [if_neg (by omega)]
      split
      · refine (leafy2 _).imp ?_
        rintro _ _ ⟨k, rr, b', rfl, rfl, h1, h2, h3⟩
        simp -dsimp
        exact kk k rr b' _ (.leaf h1) h2 h3
      split
      · refine (leafy2 _).imp ?_
        rintro _ _ ⟨k, rr, b', rfl, rfl, h1, h2, h3⟩
        simp -dsimp
        exact kk k rr b' _ (.leaf h1) h2 h3
      simp -dsimp
      split
      · refine drwP ns hn (by omega) (by decide) fun m m0 m1 => ?_
        simp -dsimp
        refine Ev_lcF2 (items := rngI 0 m.toNat) (μ1 := PS t1 (t2 ++ atc (room - 1) :: v) (b + 1 + 1) p) ?_ rfl (by simp; omega) (fun i acc μ' => ∃ (l : List Kd) (r : List Nat) (b' room' : Int), acc = l.map Kd.t ∧ DrL d p l r ∧ l.length = i ∧ μ' = PS t1 (t2 ++ atc room' :: v) b' r ∧ b + 2 ≤ b' ∧ b' ≤ b + 2 + ((l.length * useD d : Nat) : Int)) ⟨[], p, b + 1 + 1, room - 1, rfl, .nil, rfl, rfl, by omega, by simp; omega⟩ ?_ ?_
        · apply of_Ev
          simp -dsimp
          omega
        · rintro i x acc μ' hx ha hl ⟨l, r, b', room', rfl, hc, hli, rfl, c0, c1⟩
          obtain ⟨hi, rfl⟩ := rngI_at hx
          simp -dsimp [wipeZ]
          obtain ⟨o1, o2, o3, o4⟩ := cls_ok hc
          have m1 : l.length * useC d ≤ 2 * useC d := Nat.mul_le_mul_right _ (by omega)
          have m2 : l.length * useD d ≤ 2 * useD d := Nat.mul_le_mul_right _ (by omega)
          refine ih f (by omega) ⟨by omega, by omega⟩ ⟨by omega, by omega⟩ fun k r2 b2 room2 h1 h2 h3 => ?_
          refine ⟨k.t, PS t1 (t2 ++ atc room2 :: v) b2 r2, rfl, by simp, by simp, l ++ [k], r2, b2, room2, by simp, hc.snoc h1, by simp [hli], rfl, by omega, ?_⟩
          have e2 : (l ++ [k]).length * useD d = l.length * useD d + useD d := by simp [Nat.add_mul]
          rw [e2]
          generalize l.length * useD d = G2 at c1 m2
          omega
        · rintro acc μ' hl hm ⟨l, r, b', room', rfl, hc, hli, rfl, c0, c1⟩
          refine ⟨PS_lk2, ?_⟩
          simp at hli
          have hl3 : l.length ≤ 3 := by omega
          have m2 : l.length * useD d ≤ 3 * useD d := Nat.mul_le_mul_right _ hl3
          simp -dsimp
          have := kk (.row l) r b' room' (.row hc hl3) (by omega) (by omega)
          simpa [Kd.t, Kd.ts_map] using this
      split
      · refine ih f (by omega) ⟨by omega, by omega⟩ ⟨by omega, by omega⟩ fun k0 r0 b0 room0 h1 h2 h3 => ?_
        simp -dsimp
        obtain ⟨o1, o2, o3, o4⟩ := cl_ok h1
        refine drwP ns hn (by omega) (by decide) fun m m0 m1 => ?_
        simp -dsimp
        refine ⟨by omega, ?_⟩
        have hat : ∀ (c : Cell) (b' room' : Int) (r : List Nat), (PS t1 (t2 ++ atc room' :: (v ++ [c])) b' r)[t1.length + (t2.length + (v.length + 1)) + 2]? = some c := fun c b' room' r => by
          have := PS_at (t1 := t1) (t2 := t2 ++ atc room' :: v) (v := []) (b := b') (p := r) (c := c) (n := t1.length + (t2.length + (v.length + 1)) + 2) (by simp)
          simpa using this
        have hset : ∀ (c c' : Cell) (b' room' : Int) (r : List Nat), (PS t1 (t2 ++ atc room' :: (v ++ [c])) b' r).set (t1.length + (t2.length + (v.length + 1)) + 2) c' = PS t1 (t2 ++ atc room' :: (v ++ [c'])) b' r := fun c c' b' room' r => by
          have := PS_set (t1 := t1) (t2 := t2 ++ atc room' :: v) (v := []) (b := b') (p := r) (c := c) (c' := c') (n := t1.length + (t2.length + (v.length + 1)) + 2) (by simp)
          simpa using this
        refine Es_forL (fun i δ μ' => ∃ (l : List Kd) (r : List Nat) (b' room' : Int) (x7 : Option Sv), DrO d r0 l r ∧ l.length = i ∧ δ = [some (.d (.lst (ns.map D.int))), some (.c 0), some (.c (t1.length + 1)), some (.d (.int ((d : Int) + 1 + 1))), some (.c (t1.length + t2.length + 2)), some (.d (.int w)), none, x7, some (.c (t1.length + (t2.length + (v.length + 1)) + 2)), none] ∧ μ' = PS t1 (t2 ++ atc room' :: (v ++ [.lst (k0.t :: l.map Kd.t |>.map Sv.d)])) b' r ∧ b0 + 1 ≤ b' ∧ b' ≤ b0 + 1 + ((l.length * useD d : Nat) : Int)) _ 0 _ _ ⟨[], r0, b0 + 1, room0, none, .nil, rfl, ?_, rfl, by omega, by omega⟩ ?_ ?_
        · rfl
        · rintro i x δ μ' hx ⟨l, r, b', room', x7, ho, hli, rfl, rfl, c0, c1⟩
          obtain ⟨hi, rfl⟩ := rngI_at hx
          obtain ⟨i1, i2, i3, i4⟩ := ops_ok ho
          have m1 : l.length * (useC d + 1) ≤ 1 * (useC d + 1) := Nat.mul_le_mul_right _ (by omega)
          have m2 : l.length * useD d ≤ 1 * useD d := Nat.mul_le_mul_right _ (by omega)
          generalize hg1 : l.length * (useC d + 1) = G1 at m1 i1
          generalize hg2 : l.length * useD d = G2 at m2 c1
          simp -dsimp [↓hat]
          have q1 : useC d + 1 ≤ r.length := by
            omega
          refine opened f (by omega) ⟨by omega, by omega⟩ ⟨q1, by omega⟩ fun x k q r2 b2 room2 e h1 h2 h3 => ?_
          subst e
          simp -dsimp [↓hat, ↓hset]
          have e2 : (l ++ [Kd.row [.word [x], k]]).length * useD d = G2 + useD d := by rw [← hg2]; simp [Nat.add_mul]
          have e3 : ((l ++ [Kd.row [.word [x], k]]).length : Int) * (useD d : Int) = ((G2 + useD d : Nat) : Int) := by rw [← e2, Int.natCast_mul]
          refine ⟨by omega, l ++ [.row [.word [x], k]], r2, ho.snoc h1, by simp [hli], b2, ⟨room2, by simp [Kd.t, Kd.ts]⟩, by omega, ?_⟩
          rw [e3]
          omega
        · rintro δ μ' ⟨l, r, b', room', x7, ho, hli, rfl, rfl, c0, c1⟩
          rw [rngI_len, Nat.zero_add] at hli
          have m2 : l.length * useD d ≤ 2 * useD d := Nat.mul_le_mul_right _ (by omega)
          have ht : bTuple [.c (t1.length + (t2.length + (v.length + 1)) + 2)] (PS t1 (t2 ++ atc room' :: (v ++ [.lst (.d k0.t :: l.map (Sv.d ∘ Kd.t))])) b' r) = okz (.tup (k0.t :: l.map Kd.t)) (PS t1 (t2 ++ atc room' :: (v ++ [.lst (.d k0.t :: l.map (Sv.d ∘ Kd.t))])) b' r) := by
            refine bTuple_c ?_
            rw [hat]; simp
          simp -dsimp [ht]
          have := kk (.pick (k0 :: l)) r b' room' (.pick h1 ho (by omega) (by omega)) (by omega) (by omega)
          simpa [Kd.t, Kd.ts, Kd.ts_map] using this
      · refine drwP ns hn (by omega) (by decide) fun m m0 m1 => ?_
        simp -dsimp
        refine taken_sp m0 hp.2 ?_
        simp -dsimp
        have hlt : (p.take m.toNat).length = m.toNat := List.length_take_of_le (by omega)
        have hpe : p = p.take m.toNat ++ p.drop m.toNat := (List.take_append_drop _ _).symm
        have hdl : (p.drop m.toNat).length = p.length - m.toNat := List.length_drop ..
        generalize p.take m.toNat = bt at hlt hpe ⊢
        generalize p.drop m.toNat = q at hpe hdl ⊢
        have bl : bt.length ≤ 2 := by omega
        split
        · rename_i hm
          split
          · obtain ⟨x, y, q, rfl⟩ : ∃ x y q2, q = x :: y :: q2 := by
              match q, hdl with
              | x :: y :: q, _ => exact ⟨x, y, q, rfl⟩
              | [x], h => simp at h; omega
              | [], h => simp at h; omega
            refine taken_sp (by decide) (by omega) ?_
            simp -dsimp
            refine drwP ns hn (by omega) (by decide) fun z z0 z1 => ?_
            simp -dsimp
            obtain ⟨z, rfl⟩ := Int.eq_ofNat_of_zero_le z0
            have := kk (.many (.run [x, y] 1 (1 + z)) bt) q (b + 1 + 1 + 1) (room - 1) (by rw [hpe]; exact .manyR (by omega) bl (by omega) (by omega)) (by omega) (by omega)
            simpa [Kd.t] using this
          · refine opened f (by omega) ⟨by omega, by omega⟩ ⟨by omega, by omega⟩ fun x k q2 r2 b2 room2 e h1 h2 h3 => ?_
            simp -dsimp
            have := kk (.many (.row [.word [x], k]) bt) r2 b2 room2 (by rw [hpe, e]; exact .many bl h1) (by omega) (by omega)
            simpa [Kd.t] using this
        · refine opened f (by omega) ⟨by omega, by omega⟩ ⟨by omega, by omega⟩ fun x k q2 r2 b2 room2 e h1 h2 h3 => ?_
          simp -dsimp
          have := kk (.many (.row [.word [x], k]) bt) r2 b2 room2 (by rw [hpe, e]; exact .many bl h1) (by omega) (by omega)
          simpa [Kd.t] using this
end Y
namespace Y
open PySem PySem.Spec PyProof.Rows L2 Z
theorem is_row (n : Nat) (r : Rw) (h : RwIn n r) (μ : Mu) : f_L_is_row [.d (rwD r), .d (.int n)] μ = some (.ok (.d (.bl true)), μ) := by
  apply of_Ev
  have num : ∀ (a : Nat), a < n → ∀ μ, f_L_is_number [.d (.int a), .d (.int n)] μ = some (.ok (.d (.bl true)), μ) := fun a ha μ => by
    apply of_Ev
    unfold f_L_is_number
    simp -dsimp
    exact ha
  have e0 : ∀ (d : D) (l : List D), (∃ p, D.py d = some p) → (∃ q, D.py.pys l = some q) → eqD (.tup (d :: l)) (.tup []) = some false := fun d l ⟨p, h1⟩ ⟨q, h2⟩ => by
    simp [eqD, D.py, D.py.pys, h1, h2, PyData.depth, PyData.depthAll, PyData.eqv, PyData.eqvAll]
  unfold f_L_is_row
  cases r with
  | sign t =>
    have q := e0 (.str signN) [.str t] ⟨_, rfl⟩ ⟨_, rfl⟩
    simp -dsimp [rwD, q]
  | both a b =>
    have q := e0 (.str bothN) [.int a, .int b] ⟨_, rfl⟩ ⟨_, rfl⟩
    simp -dsimp [rwD, q]
    refine Ev_of (num a h.1 _) ?_
    simp -dsimp
    refine Ev_of (num b h.2 _) ?_
    simp -dsimp
  | go a =>
    have q := e0 (.str goN) [.int a] ⟨_, rfl⟩ ⟨_, rfl⟩
    simp -dsimp [rwD, q]
    refine Ev_of (num a h _) ?_
    simp -dsimp
  | mark t f =>
    have q := e0 (.str markN) [.str t, .int f] ⟨_, rfl⟩ ⟨_, rfl⟩
    simp -dsimp [rwD, q]
  | fin =>
    have q := e0 (.str endN) [] ⟨_, rfl⟩ ⟨_, rfl⟩
    have q2 : eqD (.tup [.str [101, 110, 100]]) (.tup [.str [101, 110, 100]]) = some true := eqD_refl 2 rfl
    simp -dsimp [rwD, q, q2]
theorem ne_cell {μ : Mu} {n : Nat} {l m : List D} {b : Bool} (h : μ[n]? = some (.lst (l.map Sv.d))) (e : eqD (.lst l) (.lst m) = some b) : oNe (.c n) (.d (.lst m)) μ = okz (.bl (!b)) μ := by
  unfold oNe
  rw [dV_cc, h, dVC_l, dV_d]
  simp [e]
theorem rows_eq (rows : List Rw) : eqD (.lst (rows.map rwD)) (.lst (rows.map rwD)) = some true := eqD_refl 3 (by
  simp only [D.ok]
  exact okL_of fun d h => by obtain ⟨r, _, rfl⟩ := List.mem_map.1 h; cases r <;> rfl)
end Y
namespace Y
open PySem PySem.Spec PyProof.Rows L2 Z
theorem law_true (ns : List Int) (hn : ns.length ≤ 63) : ∃ μ', f_law [.d (.lst (ns.map D.int))] [] = some (.ok (.d (.bl true)), μ') := by
  suffices h : Ev (f_law [.d (.lst (ns.map D.int))] []) fun r μ' => r = .ok (.d (.bl true)) by
    obtain ⟨r, μ', h, rfl⟩ := h
    exact ⟨μ', h⟩
  unfold f_law
  simp -dsimp
  refine Es_forL (fun i δ μ' => ∃ (b : Int) (t : Mu) (x2 x3 x4 x5 x6 x7 x8 : Option Sv), δ = [some (.d (.lst (ns.map D.int))), some (.c 0), x2, x3, x4, x5, x6, x7, x8] ∧ μ' = atc b :: t ∧ 0 ≤ b ∧ b ≤ 1000 * i) _ 0 _ _ ⟨0, [], none, none, none, none, none, none, none, rfl, rfl, by omega, by omega⟩ ?_ ?_
  · rintro i x δ μ' hx ⟨b, t, x2, x3, x4, x5, x6, x7, x8, rfl, rfl, b0, b1⟩
    obtain ⟨hi, rfl⟩ := rngI_at hx
    simp -dsimp
    refine pool_sp ns hn (by omega) fun p hp hpn => ?_
    simp -dsimp
    refine drwP ns hn (by omega) (by decide) fun w w0 w1 => ?_
    simp -dsimp
    refine clear_sp ns hn 2 20 (by omega) (t1 := t) (t2 := []) (v := []) (b := b + 2 + 1) (room := 4 + w) (p := p) (by simp only [useD]; omega) (by simp only [useC]; omega) fun k r b' room' hc c0 c1 => ?_
    simp only [useD] at c1
    obtain ⟨o1, o2, o3, o4⟩ := cl_ok hc
    simp only [szC] at o2
    have hrl := rl_le k
    have hll := lay_len k 0
    generalize hT : PS t ([] ++ atc room' :: []) b' r = T
    have hT2 : ∃ t', T = atc b' :: t' := ⟨_, hT.symm⟩
    clear hT
    simp -dsimp
    refine Ev_of (show R_real 20 0 [.d k.t] T = _ from real_sp 8 20 k (by omega) (by omega) (by omega) T) ?_
    simp -dsimp
    have hw : HasM (tW 20) "written" k.o (.str k.wr) := wr_sp 8 20 k (by omega) (by omega) (by omega)
    obtain ⟨fn, e1, e2⟩ := hw
    have e1' : ∀ μ, pick "written" [("Kind", f_Kind_written, []), ("Word", f_Word_written, []), ("Run", f_Run_written, []), ("Row", f_Row_written, []), ("Pick", f_Pick_written, []), ("Many", f_Many_written, [])] μ (.d k.o) = some (fn, []) := e1
    simp -dsimp [e1']
    refine Ev_of (e2 T) ?_
    simp -dsimp
    refine (rows_of_sp k (by omega) (by omega) T).imp ?_
    rintro _ _ ⟨t', rfl, rfl, hrow⟩
    have hin : ∀ r ∈ lay 0 k ++ [Rw.fin], RwIn (lay 0 k ++ [Rw.fin]).length r := fun r hr => by
      have e : (lay 0 k ++ [Rw.fin]).length = k.rl + 1 := by simp [hll]
      rw [e]
      rcases List.mem_append.1 hr with h | h
      · exact lay_in k 0 _ (by omega) r h
      · rcases List.mem_singleton.1 h with rfl; trivial
    have hlen : (lay 0 k ++ [Rw.fin]).length = k.rl + 1 := by simp [hll]
    have hrow2 : (T ++ t')[T.length + 1]? = some (.lst (((lay 0 k ++ [Rw.fin]).map rwD).map Sv.d)) := by rw [hrow, List.map_map]; rfl
    have hagain := rows_of_sp k (by omega) (by omega)
    generalize lay 0 k ++ [Rw.fin] = rs at hin hlen hrow2 hagain
    clear hrow
    obtain ⟨T', hT'⟩ := hT2
    generalize hU : T ++ t' = U at hrow2 ⊢
    have hU2 : ∃ u, U = atc b' :: u := ⟨T' ++ t', by rw [← hU, hT']; rfl⟩
    have hj1 : 1 ≤ T.length + 1 := by omega
    generalize T.length + 1 = j at hrow2 hj1 ⊢
    clear hU hT'
    simp -dsimp [↓hrow2]
    refine ⟨by omega, by omega, ?_⟩
    refine Ev_of (lcWc (p := fun _ => true) (f := fun _ => .bl true) ⟨(rs.map rwD).map Sv.d, fun ν => ν[j]? = some (.lst ((rs.map rwD).map Sv.d))⟩ ?_ ?_ ?_ ?_) ?_
    · apply of_Ev; simp -dsimp [↓hrow2]
    · intro t''; show (U ++ t'')[j]? = _; rw [List.getElem?_append_left (List.getElem?_eq_some_iff.1 hrow2).1]; exact hrow2
    · simp; omega
    · rintro z acc hz
      obtain ⟨d, hd, rfl⟩ := List.mem_map.1 hz
      obtain ⟨r, hr, rfl⟩ := List.mem_map.1 hd
      have hu : (U ++ [Cell.lst (acc.map Sv.d)])[j]? = some (.lst ((rs.map rwD).map Sv.d)) := by rw [List.getElem?_append_left (List.getElem?_eq_some_iff.1 hrow2).1]; exact hrow2
      refine ⟨_, rfl, rfl, fun _ => of_Ev ?_⟩
      simp -dsimp [wipeZ, ↓hu]
      refine Ev_of (is_row rs.length r (hin r hr) _) ?_
      simp -dsimp
    have hall : List.map (fun _ => D.bl true) (List.filter (fun _ => true) ((rs.map rwD).map Sv.d)) = (rs.map fun _ => true).map D.bl := by
      rw [List.filter_eq_self.2 (fun _ _ => rfl)]; simp
    have hb : ∀ μ, bAll [.d (.lst (List.map (D.bl ∘ fun _ => true) rs))] μ = okz (.bl true) μ := fun μ => by
      have := bAll_l (μ := μ) (rs.map fun _ => true)
      rw [List.map_map] at this
      rw [this]
      congr 2
      simp
    have hlist : bList [.c j] U = okz (.lst (rs.map rwD)) U := bList_c hrow2
    show okc _ _ _
    dsimp only
    rw [hall]
    simp -dsimp [↓hrow2, hb, hlist]
    refine ⟨by omega, ?_⟩
    refine (hagain _).imp ?_
    rintro _ _ ⟨t2, rfl, rfl, hr2⟩
    generalize hV : U.set j (Cell.lst (List.map (Sv.d ∘ rwD) rs ++ [Sv.d (D.tup [D.str [101, 110, 100]])])) = V at hr2 ⊢
    have hV2 : ∃ u, V = atc b' :: u := by
      obtain ⟨u, rfl⟩ := hU2
      obtain ⟨j, rfl⟩ : ∃ z, j = z + 1 := ⟨j - 1, by omega⟩
      exact ⟨_, hV.symm⟩
    have hne := ne_cell (m := rs.map rwD) (by rw [hr2, List.map_map]; rfl) (rows_eq rs)
    simp -dsimp [hne, e1']
    refine Ev_of (e2 _) ?_
    simp -dsimp
    obtain ⟨u, rfl⟩ := hV2
    exact ⟨b', ⟨u ++ t2, rfl⟩, by omega, by omega⟩
  · rintro δ μ' ⟨b, t, x2, x3, x4, x5, x6, x7, x8, rfl, rfl, b0, b1⟩
    simp -dsimp
end Y
namespace Y
open PySem PySem.Spec PyProof.Rows L2 Z
def topZ (i : Nat) : Stmt := PySem.Challenge.pw_toandfro_k11_rows_of_kinds.main.body.getD i (.Pass ⟨0, 0, 0, 0⟩)
abbrev st_L_draw : Stmt := (topZ 13)
def S_L_draw : Scope := ⟨.function, [("_law_script", .local), ("_law_at", .local), ("_law_many", .local), ("_law_k", .local), ("_law_cells", .local), ("_law_number", .local), ("int", .globalImplicit), ("len", .globalImplicit)], false, false, []⟩
theorem hS_L_draw : defScope st_L_draw = S_L_draw := by rfl
abbrev st_L_taken : Stmt := (topZ 15)
def S_L_taken : Scope := ⟨.function, [("_law_pool_here", .local), ("_law_many", .local), ("_law_found", .local)], false, false, []⟩
theorem hS_L_taken : defScope st_L_taken = S_L_taken := by rfl
abbrev st_L_tangled : Stmt := (topZ 16)
def S_L_tangled : Scope := ⟨.function, [("_law_script", .local), ("_law_at", .local), ("_law_pool_here", .local), ("_law_a", .local), ("_law_b", .local), ("_law_c", .local), ("_law_least", .local), ("_law_letters", .cell), ("_law_many", .local), ("_law_some", .local), ("list", .globalImplicit), ("_law_taken", .globalImplicit), ("_law_draw", .globalImplicit), ("tuple", .globalImplicit)], false, false, [("fast", .str "_law_script"), ("fast", .str "_law_at"), ("fast", .str "_law_pool_here"), ("fast", .str "_law_a"), ("fast", .str "_law_b"), ("fast", .str "_law_c"), ("fast", .str "_law_least"), ("fast", .str "_law_letters"), ("fast", .str "_law_many"), ("fast", .str "_law_some"), ("fast", .str "_law_word")]⟩
theorem hS_L_tangled : defScope st_L_tangled = S_L_tangled := by rfl
abbrev st_L_leaf : Stmt := (topZ 17)
def S_L_leaf : Scope := ⟨.function, [("_law_script", .local), ("_law_at", .local), ("_law_pool_here", .local), ("_law_signs", .local), ("_law_least", .local), ("_law_draw", .globalImplicit), ("_law_tangled", .globalImplicit), ("_law_taken", .globalImplicit), ("max", .globalImplicit)], false, false, []⟩
theorem hS_L_leaf : defScope st_L_leaf = S_L_leaf := by rfl
abbrev st_L_opened : Stmt := (topZ 18)
def S_L_opened : Scope := ⟨.function, [("_law_script", .local), ("_law_at", .local), ("_law_pool_here", .local), ("_law_deep", .local), ("_law_room", .local), ("_law_taken", .globalImplicit), ("_law_clear", .globalImplicit)], false, false, []⟩
theorem hS_L_opened : defScope st_L_opened = S_L_opened := by rfl
abbrev st_L_clear : Stmt := (topZ 19)
def S_L_clear : Scope := ⟨.function, [("_law_script", .cell), ("_law_at", .cell), ("_law_pool_here", .cell), ("_law_deep", .cell), ("_law_room", .cell), ("_law_way", .local), ("_law_many", .local), ("_law_k", .local), ("_law_parts", .local), ("_law_between", .local), ("_law_draw", .globalImplicit), ("_law_leaf", .globalImplicit), ("tuple", .globalImplicit), ("range", .globalImplicit), ("_law_clear", .globalImplicit), ("_law_opened", .globalImplicit), ("_law_taken", .globalImplicit)], false, false, [("fast", .str "_law_script"), ("fast", .str "_law_at"), ("fast", .str "_law_pool_here"), ("fast", .str "_law_deep"), ("fast", .str "_law_room"), ("fast", .str "_law_way"), ("fast", .str "_law_many"), ("fast", .str "_law_k"), ("fast", .str "_law_parts"), ("fast", .str "_law_between")]⟩
theorem hS_L_clear : defScope st_L_clear = S_L_clear := by rfl
abbrev st_Many_init : Stmt := (inClass (topZ 8) 0)
def S_Many_init : Scope := ⟨.function, [("self", .local), ("part", .local), ("between", .local)], false, false, []⟩
theorem hS_Many_init : defScope st_Many_init = S_Many_init := by rfl
abbrev st_Word_init : Stmt := (inClass (topZ 4) 0)
def S_Word_init : Scope := ⟨.function, [("self", .local), ("text", .local)], false, false, []⟩
theorem hS_Word_init : defScope st_Word_init = S_Word_init := by rfl
abbrev st_Run_init : Stmt := (inClass (topZ 5) 0)
def S_Run_init : Scope := ⟨.function, [("self", .local), ("signs", .local), ("least", .local), ("most", .local)], false, false, []⟩
theorem hS_Run_init : defScope st_Run_init = S_Run_init := by rfl
abbrev st_Row_init : Stmt := (inClass (topZ 6) 0)
def S_Row_init : Scope := ⟨.function, [("self", .local), ("parts", .local), ("list", .globalImplicit)], false, false, []⟩
theorem hS_Row_init : defScope st_Row_init = S_Row_init := by rfl
abbrev st_Pick_init : Stmt := (inClass (topZ 7) 0)
def S_Pick_init : Scope := ⟨.function, [("self", .local), ("parts", .local), ("list", .globalImplicit)], false, false, []⟩
theorem hS_Pick_init : defScope st_Pick_init = S_Pick_init := by rfl
abbrev st_L_real : Stmt := (topZ 20)
def S_L_real : Scope := ⟨.function, [("_law_kind", .local), ("Word", .globalImplicit), ("Run", .globalImplicit), ("Row", .globalImplicit), ("Pick", .globalImplicit), ("Many", .globalImplicit), ("_law_real", .globalImplicit)], false, false, [("fast", .str "_law_kind"), ("fast", .str "_law_part")]⟩
theorem hS_L_real : defScope st_L_real = S_L_real := by rfl
abbrev st_Kind_written : Stmt := (inClass (topZ 3) 4)
def S_Kind_written : Scope := ⟨.function, [("self", .local)], false, false, []⟩
theorem hS_Kind_written : defScope st_Kind_written = S_Kind_written := by rfl
abbrev st_quoted : Stmt := (topZ 2)
def S_quoted : Scope := ⟨.function, [("text", .local)], false, false, []⟩
theorem hS_quoted : defScope st_quoted = S_quoted := by rfl
abbrev st_Word_written : Stmt := (inClass (topZ 4) 2)
def S_Word_written : Scope := ⟨.function, [("self", .local), ("quoted", .globalImplicit)], false, false, []⟩
theorem hS_Word_written : defScope st_Word_written = S_Word_written := by rfl
abbrev st_Run_written : Stmt := (inClass (topZ 5) 2)
def S_Run_written : Scope := ⟨.function, [("self", .local), ("quoted", .globalImplicit), ("str", .globalImplicit)], false, false, []⟩
theorem hS_Run_written : defScope st_Run_written = S_Run_written := by rfl
abbrev st_Kind_item : Stmt := (inClass (topZ 3) 5)
def S_Kind_item : Scope := ⟨.function, [("self", .local)], false, false, []⟩
theorem hS_Kind_item : defScope st_Kind_item = S_Kind_item := by rfl
abbrev st_Kind_alt : Stmt := (inClass (topZ 3) 6)
def S_Kind_alt : Scope := ⟨.function, [("self", .local)], false, false, []⟩
theorem hS_Kind_alt : defScope st_Kind_alt = S_Kind_alt := by rfl
abbrev st_Row_written : Stmt := (inClass (topZ 6) 2)
def S_Row_written : Scope := ⟨.function, [("self", .local), ("found", .local), ("len", .globalImplicit)], false, false, [("fast", .str "self"), ("fast", .str "part"), ("fast", .str "found")]⟩
theorem hS_Row_written : defScope st_Row_written = S_Row_written := by rfl
abbrev st_Row_item : Stmt := (inClass (topZ 6) 3)
def S_Row_item : Scope := ⟨.function, [("self", .local), ("len", .globalImplicit)], false, false, []⟩
theorem hS_Row_item : defScope st_Row_item = S_Row_item := by rfl
abbrev st_Pick_written : Stmt := (inClass (topZ 7) 2)
def S_Pick_written : Scope := ⟨.function, [("self", .local)], false, false, [("fast", .str "self"), ("fast", .str "part")]⟩
theorem hS_Pick_written : defScope st_Pick_written = S_Pick_written := by rfl
abbrev st_Pick_item : Stmt := (inClass (topZ 7) 3)
def S_Pick_item : Scope := ⟨.function, [("self", .local)], false, false, []⟩
theorem hS_Pick_item : defScope st_Pick_item = S_Pick_item := by rfl
abbrev st_Pick_alt : Stmt := (inClass (topZ 7) 4)
def S_Pick_alt : Scope := ⟨.function, [("self", .local)], false, false, []⟩
theorem hS_Pick_alt : defScope st_Pick_alt = S_Pick_alt := by rfl
abbrev st_Many_written : Stmt := (inClass (topZ 8) 3)
def S_Many_written : Scope := ⟨.function, [("self", .local), ("quoted", .globalImplicit)], false, false, []⟩
theorem hS_Many_written : defScope st_Many_written = S_Many_written := by rfl
abbrev st_Laying_init : Stmt := (inClass (topZ 10) 0)
def S_Laying_init : Scope := ⟨.function, [("self", .local)], false, false, []⟩
theorem hS_Laying_init : defScope st_Laying_init = S_Laying_init := by rfl
abbrev st_Laying_lay : Stmt := (inClass (topZ 10) 1)
def S_Laying_lay : Scope := ⟨.function, [("self", .local), ("row", .local), ("len", .globalImplicit)], false, false, []⟩
theorem hS_Laying_lay : defScope st_Laying_lay = S_Laying_lay := by rfl
abbrev st_Laying_lay_signs : Stmt := (inClass (topZ 10) 3)
def S_Laying_lay_signs : Scope := ⟨.function, [("self", .local), ("text", .local), ("sign", .local)], false, false, []⟩
theorem hS_Laying_lay_signs : defScope st_Laying_lay_signs = S_Laying_lay_signs := by rfl
abbrev st_Laying_lay_run : Stmt := (inClass (topZ 10) 4)
def S_Laying_lay_run : Scope := ⟨.function, [("self", .local), ("kind", .local), ("turn", .local), ("doors", .local), ("behind", .local), ("door", .local), ("range", .globalImplicit)], false, false, []⟩
theorem hS_Laying_lay_run : defScope st_Laying_lay_run = S_Laying_lay_run := by rfl
abbrev st_Laying_lay_kind : Stmt := (inClass (topZ 10) 2)
def S_Laying_lay_kind : Scope := ⟨.function, [("self", .local), ("kind", .local), ("part", .local), ("isinstance", .globalImplicit), ("Word", .globalImplicit), ("Run", .globalImplicit), ("Row", .globalImplicit), ("Pick", .globalImplicit), ("Many", .globalImplicit)], false, false, []⟩
theorem hS_Laying_lay_kind : defScope st_Laying_lay_kind = S_Laying_lay_kind := by rfl
abbrev st_Laying_lay_pick : Stmt := (inClass (topZ 10) 5)
def S_Laying_lay_pick : Scope := ⟨.function, [("self", .local), ("parts", .local), ("doors", .local), ("place", .local), ("part", .local), ("door", .local), ("enumerate", .globalImplicit), ("len", .globalImplicit)], false, false, []⟩
theorem hS_Laying_lay_pick : defScope st_Laying_lay_pick = S_Laying_lay_pick := by rfl
abbrev st_Laying_lay_many : Stmt := (inClass (topZ 10) 6)
def S_Laying_lay_many : Scope := ⟨.function, [("self", .local), ("kind", .local), ("door", .local), ("first", .local), ("again", .local), ("behind", .local)], false, false, []⟩
theorem hS_Laying_lay_many : defScope st_Laying_lay_many = S_Laying_lay_many := by rfl
abbrev st_rows_of : Stmt := (topZ 11)
def S_rows_of : Scope := ⟨.function, [("kind", .local), ("laying", .local), ("Laying", .globalImplicit)], false, false, []⟩
theorem hS_rows_of : defScope st_rows_of = S_rows_of := by rfl
abbrev st_L_pool : Stmt := (topZ 14)
def S_L_pool : Scope := ⟨.function, [("_law_script", .local), ("_law_at", .local), ("_law_every", .cell), ("_law_first", .cell), ("_law_step", .cell), ("_law_draw", .globalImplicit), ("range", .globalImplicit)], false, false, [("fast", .str "_law_script"), ("fast", .str "_law_at"), ("fast", .str "_law_every"), ("fast", .str "_law_first"), ("fast", .str "_law_step"), ("fast", .str "_law_k")]⟩
theorem hS_L_pool : defScope st_L_pool = S_L_pool := by rfl
abbrev st_L_is_number : Stmt := (topZ 21)
def S_L_is_number : Scope := ⟨.function, [("_law_thing", .local), ("_law_many", .local), ("isinstance", .globalImplicit), ("int", .globalImplicit), ("bool", .globalImplicit)], false, false, []⟩
theorem hS_L_is_number : defScope st_L_is_number = S_L_is_number := by rfl
abbrev st_L_is_row : Stmt := (topZ 22)
def S_L_is_row : Scope := ⟨.function, [("_law_row", .local), ("_law_many", .local), ("isinstance", .globalImplicit), ("tuple", .globalImplicit), ("str", .globalImplicit), ("len", .globalImplicit), ("_law_is_number", .globalImplicit)], false, false, []⟩
theorem hS_L_is_row : defScope st_L_is_row = S_L_is_row := by rfl
abbrev st_law : Stmt := (topZ 23)
def S_law : Scope := ⟨.function, [("_law_script", .local), ("_law_at", .local), ("_law_turn", .local), ("_law_kind", .local), ("_law_real_here", .local), ("_law_ahead", .local), ("_law_rows", .cell), ("_law_kept", .local), ("range", .globalImplicit), ("_law_clear", .globalImplicit), ("_law_pool", .globalImplicit), ("_law_draw", .globalImplicit), ("_law_real", .globalImplicit), ("rows_of", .globalImplicit), ("isinstance", .globalImplicit), ("list", .globalImplicit), ("len", .globalImplicit), ("all", .globalImplicit)], false, false, [("fast", .str "_law_script"), ("fast", .str "_law_at"), ("fast", .str "_law_turn"), ("fast", .str "_law_kind"), ("fast", .str "_law_real_here"), ("fast", .str "_law_ahead"), ("fast", .str "_law_rows"), ("fast", .str "_law_row"), ("fast", .str "_law_kept")]⟩
theorem hS_law : defScope st_law = S_law := by rfl
section
variable {P : Program} {w : World} {G : Gx} {mg : Str → Option Value} {base : Heap}
theorem sc_L_draw : FnScope ["_law_script", "_law_at", "_law_many", "_law_k", "_law_cells", "_law_number"] ["_law_script", "_law_at", "_law_many"] S_L_draw := ⟨rfl, rfl, rfl, by decide +kernel, rfl, by decide +kernel, by decide +kernel⟩
theorem ok_L_draw {k : Nat} {f : Addr} {fd : FuncData} (Fu : Fun G.K "_law_draw" "_law_draw" st_L_draw f fd) (m_int : mg "int" = none) (m_len : mg "len" = none) : FnOk P w G.K mg base (L2.CX P w) (k + 1) f fd ["_law_script", "_law_at", "_law_many"] (spF G f_L_draw) :=
  ok_defS (k := k) hS_L_draw Fu sc_L_draw fun cdv A outer s H E hr =>
    (zs_cons (zs_set (i := 3) (pg_name (i := 3) sc_L_draw.nd rfl (Or.inl rfl)) (z_ix rfl (hu_of hr) (z_var 1 (pv 1)) z_int (fun _ _ => rfl))) (zs_cons (zs_put (hu_of hr) (z_var 1 (pv 1)) z_int (z_bin op_addZ (so_add rfl) (z_var 3 (pv 3)) z_int) (pg_sub (z_var 1 (pv 1)) z_int (set_Z (hu_of hr)))) (zs_cons (zs_set (i := 4) (pg_name (i := 4) sc_L_draw.nd rfl (Or.inl rfl)) (z_bin op_addZ (so_add rfl) (z_var 0 (pv 0)) (z_bin op_rep so_rep (z_lstC (za_cons z_int za_nil)) (z_bty call_int1 so_int (by rfl) m_int (by decide +kernel) (za_cons (z_cmp (op_eqP hr.units) (so_eq rfl) (z_var 0 (pv 0)) (z_lst za_nil) (nomark _)) za_nil))))) (zs_cons (zs_set (i := 5) (pg_name (i := 5) sc_L_draw.nd rfl (Or.inl rfl)) (z_bin op_mod so_mod (z_bin op_mul so_mulI (z_bin op_addZ (so_add rfl) (z_bin op_addZ (so_add rfl) (z_bin op_mod so_mod (z_ix rfl (hu_of hr) (z_var 4 (pv 4)) (z_bin op_mod so_mod (z_var 3 (pv 3)) (z_blt call_lenZ (so_len rfl) (by rfl) m_len (by decide +kernel) (za_cons (z_var 4 (pv 4)) za_nil))) (fun _ _ => rfl)) z_int) (z_bin op_mul so_mulI z_int (z_var 3 (pv 3)))) z_int) z_int) z_int)) (zs_one (zs_ret (z_bin op_mod so_mod (z_bin op_fdiv so_div (z_bin op_mod so_mod (z_bin op_mul so_mulI (z_var 5 (pv 5)) (z_bin op_addZ (so_add rfl) (z_bin op_mul so_mulI (z_var 3 (pv 3)) (z_var 3 (pv 3))) z_int)) z_int) z_int) (z_var 2 (pv 2)))))))))

theorem sc_L_taken : FnScope ["_law_pool_here", "_law_many", "_law_found"] ["_law_pool_here", "_law_many"] S_L_taken := ⟨rfl, rfl, rfl, by decide +kernel, rfl, by decide +kernel, by decide +kernel⟩
theorem ok_L_taken {k : Nat} {f : Addr} {fd : FuncData} (Fu : Fun G.K "_law_taken" "_law_taken" st_L_taken f fd) : FnOk P w G.K mg base (L2.CX P w) (k + 1) f fd ["_law_pool_here", "_law_many"] (spF G f_L_taken) :=
  ok_defS (k := k) hS_L_taken Fu sc_L_taken fun cdv A outer s H E hr =>
    (zs_cons (zs_set (i := 2) (pg_name (i := 2) sc_L_taken.nd rfl (Or.inl rfl)) (z_sl rfl (z_ix rfl (hu_of hr) (z_var 0 (pv 0)) z_int (fun _ _ => rfl)) zo_no (zo_pt (z_var 1 (pv 1))))) (zs_cons (zs_put (hu_of hr) (z_var 0 (pv 0)) z_int (z_sl rfl (z_ix rfl (hu_of hr) (z_var 0 (pv 0)) z_int (fun _ _ => rfl)) (zo_pt (z_var 1 (pv 1))) zo_no) (pg_sub (z_var 0 (pv 0)) z_int (set_Z (hu_of hr)))) (zs_one (zs_ret (z_var 2 (pv 2))))))

theorem sc_L_tangled : FnScope ["_law_script", "_law_at", "_law_pool_here", "_law_a", "_law_b", "_law_c", "_law_least", "_law_letters", "_law_many", "_law_some", "_law_word"] ["_law_script", "_law_at", "_law_pool_here"] S_L_tangled := ⟨rfl, rfl, rfl, by decide +kernel, rfl, by decide +kernel, by decide +kernel⟩
theorem ok_L_tangled {k : Nat} {f : Addr} {fd : FuncData} (Fu : Fun G.K "_law_tangled" "_law_tangled" st_L_tangled f fd) (m_list : mg "list" = none) (m_tuple : mg "tuple" = none) (g_L_taken : GFn P w G mg base "_law_taken" k f_L_taken []) (g_L_draw : GFn P w G mg base "_law_draw" k f_L_draw []) : FnOk P w G.K mg base (L2.CX P w) (k + 1) f fd ["_law_script", "_law_at", "_law_pool_here"] (spF G f_L_tangled) :=
  ok_defS (k := k) hS_L_tangled Fu sc_L_tangled fun cdv A outer s H E hr =>
    (zs_cons (zs_asg (zg_lst (.cons (zg_name 3) (.cons (zg_name 4) (.cons (zg_name 5) .nil))) (len_cons (len_cons (len_cons len_nil)))) (pg_lst rfl (pgs_cons (pg_name (i := 3) sc_L_tangled.nd rfl (Or.inl rfl)) (pgs_cons (pg_name (i := 4) sc_L_tangled.nd rfl (Or.inl rfl)) (pgs_cons (pg_name (i := 5) sc_L_tangled.nd rfl (Or.inl rfl)) pgs_nil)))) (z_bty (cr_listS rfl) so_listS (by rfl) m_list (by decide +kernel) (za_cons (z_g g_L_taken rfl hr (pz_takes (takes_of rfl rfl rfl rfl)) (by rfl) (za_cons (z_var 2 (pv 2)) (za_cons z_int za_nil))) za_nil))) (zs_cons (zs_set (i := 6) (pg_name (i := 6) sc_L_tangled.nd rfl (Or.inl rfl)) (z_g g_L_draw rfl hr (pz_takes (takes_of rfl rfl rfl rfl)) (by rfl) (za_cons (z_var 0 (pv 0)) (za_cons (z_var 1 (pv 1)) (za_cons z_int za_nil))))) (zs_cons (zs_set (i := 7) (pg_name (i := 7) sc_L_tangled.nd rfl (Or.inr rfl)) (z_tup (za_cons (z_str [114, 117, 110] (by decide +kernel)) (za_cons (z_bin op_addZ (so_add rfl) (z_var 3 (pv 3)) (z_var 4 (pv 4))) (za_cons (z_var 6 (pv 6)) (za_cons (z_bin op_addZ (so_add rfl) (z_bin op_addZ (so_add rfl) (z_var 6 (pv 6)) z_int) (z_g g_L_draw rfl hr (pz_takes (takes_of rfl rfl rfl rfl)) (by rfl) (za_cons (z_var 0 (pv 0)) (za_cons (z_var 1 (pv 1)) (za_cons z_int za_nil))))) za_nil)))))) (zs_cons (zs_set (i := 8) (pg_name (i := 8) sc_L_tangled.nd rfl (Or.inl rfl)) (z_tup (za_cons (z_str [109, 97, 110, 121] (by decide +kernel)) (za_cons (z_tup (za_cons (z_str [119, 111, 114, 100] (by decide +kernel)) (za_cons (z_var 3 (pv 3)) za_nil))) (za_cons (z_str [] (by decide +kernel)) za_nil))))) (zs_cons (zs_set (i := 9) (pg_name (i := 9) sc_L_tangled.nd rfl (Or.inl rfl)) (z_lstC (za_cons (z_tup (za_cons (z_str [114, 111, 119] (by decide +kernel)) (za_cons (z_tup (za_cons (z_var 7 (pv 7)) (za_cons (z_tup (za_cons (z_str [119, 111, 114, 100] (by decide +kernel)) (za_cons (z_bin op_addZ (so_add rfl) (z_var 4 (pv 4)) (z_var 5 (pv 5))) za_nil))) za_nil))) za_nil))) (za_cons (z_tup (za_cons (z_str [114, 111, 119] (by decide +kernel)) (za_cons (z_tup (za_cons (z_var 7 (pv 7)) (za_cons (z_tup (za_cons (z_str [119, 111, 114, 100] (by decide +kernel)) (za_cons (z_var 4 (pv 4)) za_nil))) za_nil))) za_nil))) za_nil)))) (zs_cons (zs_ex (z_bm rfl PySem.F.plainAttrs_list PySem.F.slot_list_append PySem.F.type_list_append mt_append so_app (z_var 9 (pv 9)) (za_cons (z_tup (za_cons (z_str [114, 111, 119] (by decide +kernel)) (za_cons (z_tup (za_cons (z_var 7 (pv 7)) (za_cons (z_tup (za_cons (z_str [114, 117, 110] (by decide +kernel)) (za_cons (z_bin op_addZ (so_add rfl) (z_var 4 (pv 4)) (z_var 5 (pv 5))) (za_cons z_int (za_cons z_int za_nil))))) za_nil))) za_nil))) za_nil))) (zs_cons (zs_ex (z_bm rfl PySem.F.plainAttrs_list PySem.F.slot_list_append PySem.F.type_list_append mt_append so_app (z_var 9 (pv 9)) (za_cons (z_tup (za_cons (z_str [112, 105, 99, 107] (by decide +kernel)) (za_cons (z_bty call_tuple_of (so_tuple rfl) (by rfl) m_tuple (by decide +kernel) (za_cons (z_frz (by exact (z_lcW rfl sc_L_tangled.nd (zi_seqW rfl (z_tup (za_cons (z_var 5 (pv 5)) (za_cons (z_bin op_addZ (so_add rfl) (z_var 5 (pv 5)) (z_var 5 (pv 5))) (za_cons (z_bin op_addZ (so_add rfl) (z_var 5 (pv 5)) (z_var 3 (pv 3))) za_nil))))) (blkOk_by (own := [("_law_word", 10)]) (N := ["_law_script", "_law_at", "_law_pool_here", "_law_a", "_law_b", "_law_c", "_law_least", "_law_letters", "_law_many", "_law_some", "_law_word"]) (sc := S_L_tangled) (by decide +kernel)) rfl (zg_name 10) (by decide) (fun _ _ _ _ _ => (pg_name (i := 10) sc_L_tangled.nd rfl (Or.inl rfl))) (fun _ _ _ _ _ => zts_nil) (fun _ _ _ _ _ => (z_tup (za_cons (z_str [114, 111, 119] (by decide +kernel)) (za_cons (z_tup (za_cons (z_var 7 (pv 7)) (za_cons (z_tup (za_cons (z_str [119, 111, 114, 100] (by decide +kernel)) (za_cons (z_var 10 (pv 10)) za_nil))) za_nil))) za_nil))))))) za_nil)) za_nil))) za_nil))) (zs_cons (zs_ex (z_bm rfl PySem.F.plainAttrs_list PySem.F.slot_list_append PySem.F.type_list_append mt_append so_app (z_var 9 (pv 9)) (za_cons (z_tup (za_cons (z_str [112, 105, 99, 107] (by decide +kernel)) (za_cons (z_tup (za_cons (z_tup (za_cons (z_str [119, 111, 114, 100] (by decide +kernel)) (za_cons (z_var 3 (pv 3)) za_nil))) (za_cons (z_tup (za_cons (z_str [119, 111, 114, 100] (by decide +kernel)) (za_cons (z_bin op_addZ (so_add rfl) (z_var 3 (pv 3)) (z_var 4 (pv 4))) za_nil))) (za_cons (z_tup (za_cons (z_str [119, 111, 114, 100] (by decide +kernel)) (za_cons (z_var 4 (pv 4)) za_nil))) (za_cons (z_tup (za_cons (z_str [119, 111, 114, 100] (by decide +kernel)) (za_cons (z_bin op_addZ (so_add rfl) (z_bin op_addZ (so_add rfl) (z_var 3 (pv 3)) (z_var 4 (pv 4))) (z_var 5 (pv 5))) za_nil))) za_nil))))) za_nil))) za_nil))) (zs_cons (zs_ex (z_bm rfl PySem.F.plainAttrs_list PySem.F.slot_list_append PySem.F.type_list_append mt_append so_app (z_var 9 (pv 9)) (za_cons (z_tup (za_cons (z_str [109, 97, 110, 121] (by decide +kernel)) (za_cons (z_tup (za_cons (z_str [114, 117, 110] (by decide +kernel)) (za_cons (z_bin op_addZ (so_add rfl) (z_var 3 (pv 3)) (z_var 4 (pv 4))) (za_cons z_int (za_cons z_int za_nil))))) (za_cons (z_ix rfl (hu_of hr) (z_lst (za_cons (z_str [] (by decide +kernel)) (za_cons (z_var 4 (pv 4)) za_nil))) (z_g g_L_draw rfl hr (pz_takes (takes_of rfl rfl rfl rfl)) (by rfl) (za_cons (z_var 0 (pv 0)) (za_cons (z_var 1 (pv 1)) (za_cons z_int za_nil)))) (fun _ _ => rfl)) za_nil)))) za_nil))) (zs_cons (zs_ex (z_bm rfl PySem.F.plainAttrs_list PySem.F.slot_list_append PySem.F.type_list_append mt_append so_app (z_var 9 (pv 9)) (za_cons (z_tup (za_cons (z_str [109, 97, 110, 121] (by decide +kernel)) (za_cons (z_tup (za_cons (z_str [114, 111, 119] (by decide +kernel)) (za_cons (z_tup (za_cons (z_tup (za_cons (z_str [114, 117, 110] (by decide +kernel)) (za_cons (z_bin op_addZ (so_add rfl) (z_var 3 (pv 3)) (z_var 4 (pv 4))) (za_cons z_int (za_cons z_int za_nil))))) (za_cons (z_tup (za_cons (z_str [119, 111, 114, 100] (by decide +kernel)) (za_cons (z_var 5 (pv 5)) za_nil))) za_nil))) za_nil))) (za_cons (z_str [] (by decide +kernel)) za_nil)))) za_nil))) (zs_cons (zs_ex (z_bm rfl PySem.F.plainAttrs_list PySem.F.slot_list_append PySem.F.type_list_append mt_append so_app (z_var 9 (pv 9)) (za_cons (z_tup (za_cons (z_str [112, 105, 99, 107] (by decide +kernel)) (za_cons (z_tup (za_cons (z_var 8 (pv 8)) (za_cons (z_tup (za_cons (z_str [114, 111, 119] (by decide +kernel)) (za_cons (z_tup (za_cons (z_var 8 (pv 8)) (za_cons (z_tup (za_cons (z_str [119, 111, 114, 100] (by decide +kernel)) (za_cons (z_var 4 (pv 4)) za_nil))) za_nil))) za_nil))) za_nil))) za_nil))) za_nil))) (zs_one (zs_ret (z_ix rfl (hu_of hr) (z_var 9 (pv 9)) (z_g g_L_draw rfl hr (pz_takes (takes_of rfl rfl rfl rfl)) (by rfl) (za_cons (z_var 0 (pv 0)) (za_cons (z_var 1 (pv 1)) (za_cons z_int za_nil)))) (fun _ _ => rfl)))))))))))))))

theorem sc_L_leaf : FnScope ["_law_script", "_law_at", "_law_pool_here", "_law_signs", "_law_least"] ["_law_script", "_law_at", "_law_pool_here"] S_L_leaf := ⟨rfl, rfl, rfl, by decide +kernel, rfl, by decide +kernel, by decide +kernel⟩
theorem ok_L_leaf {k : Nat} {f : Addr} {fd : FuncData} (Fu : Fun G.K "_law_leaf" "_law_leaf" st_L_leaf f fd) (m_max : mg "max" = none) (g_L_draw : GFn P w G mg base "_law_draw" k f_L_draw []) (g_L_tangled : GFn P w G mg base "_law_tangled" k f_L_tangled []) (g_L_taken : GFn P w G mg base "_law_taken" k f_L_taken []) : FnOk P w G.K mg base (L2.CX P w) (k + 1) f fd ["_law_script", "_law_at", "_law_pool_here"] (spF G f_L_leaf) :=
  ok_defS (k := k) hS_L_leaf Fu sc_L_leaf fun cdv A outer s H E hr =>
    (zs_cons (zs_if (zt_cmp (op_eqP hr.units) (so_eq rfl) (z_g g_L_draw rfl hr (pz_takes (takes_of rfl rfl rfl rfl)) (by rfl) (za_cons (z_var 0 (pv 0)) (za_cons (z_var 1 (pv 1)) (za_cons z_int za_nil)))) z_int (nomark _)) (zs_one (zs_ret (z_g g_L_tangled rfl hr (pz_takes (takes_of rfl rfl rfl rfl)) (by rfl) (za_cons (z_var 0 (pv 0)) (za_cons (z_var 1 (pv 1)) (za_cons (z_var 2 (pv 2)) za_nil)))))) zs_nil) (zs_cons (zs_set (i := 3) (pg_name (i := 3) sc_L_leaf.nd rfl (Or.inl rfl)) (z_g g_L_taken rfl hr (pz_takes (takes_of rfl rfl rfl rfl)) (by rfl) (za_cons (z_var 2 (pv 2)) (za_cons (z_bin op_addZ (so_add rfl) z_int (z_g g_L_draw rfl hr (pz_takes (takes_of rfl rfl rfl rfl)) (by rfl) (za_cons (z_var 0 (pv 0)) (za_cons (z_var 1 (pv 1)) (za_cons z_int za_nil))))) za_nil)))) (zs_cons (zs_if (zt_cmp (op_eqP hr.units) (so_eq rfl) (z_g g_L_draw rfl hr (pz_takes (takes_of rfl rfl rfl rfl)) (by rfl) (za_cons (z_var 0 (pv 0)) (za_cons (z_var 1 (pv 1)) (za_cons z_int za_nil)))) z_int (nomark _)) (zs_one (zs_ret (z_tup (za_cons (z_str [119, 111, 114, 100] (by decide +kernel)) (za_cons (z_var 3 (pv 3)) za_nil))))) zs_nil) (zs_cons (zs_set (i := 4) (pg_name (i := 4) sc_L_leaf.nd rfl (Or.inl rfl)) (z_g g_L_draw rfl hr (pz_takes (takes_of rfl rfl rfl rfl)) (by rfl) (za_cons (z_var 0 (pv 0)) (za_cons (z_var 1 (pv 1)) (za_cons z_int za_nil))))) (zs_one (zs_ret (z_tup (za_cons (z_str [114, 117, 110] (by decide +kernel)) (za_cons (z_var 3 (pv 3)) (za_cons (z_var 4 (pv 4)) (za_cons (z_blt (call_max2 rfl) so_max2 (by rfl) m_max (by decide +kernel) (za_cons z_int (za_cons (z_bin op_addZ (so_add rfl) (z_var 4 (pv 4)) (z_g g_L_draw rfl hr (pz_takes (takes_of rfl rfl rfl rfl)) (by rfl) (za_cons (z_var 0 (pv 0)) (za_cons (z_var 1 (pv 1)) (za_cons z_int za_nil))))) za_nil))) za_nil)))))))))))

theorem sc_L_opened : FnScope ["_law_script", "_law_at", "_law_pool_here", "_law_deep", "_law_room"] ["_law_script", "_law_at", "_law_pool_here", "_law_deep", "_law_room"] S_L_opened := ⟨rfl, rfl, rfl, by decide +kernel, rfl, by decide +kernel, by decide +kernel⟩
theorem ok_L_opened {k : Nat} {T : Nat → Fn} {f : Addr} {fd : FuncData} (Fu : Fun G.K "_law_opened" "_law_opened" st_L_opened f fd) (g_L_clear : GFn P w G mg base "_law_clear" k (T 1) []) (g_L_taken : GFn P w G mg base "_law_taken" k f_L_taken []) : FnOk P w G.K mg base (L2.CX P w) (k + 1) f fd ["_law_script", "_law_at", "_law_pool_here", "_law_deep", "_law_room"] (spF G (b_L_opened T)) :=
  ok_defS (k := k) hS_L_opened Fu sc_L_opened fun cdv A outer s H E hr =>
    (zs_one (zs_ret (z_tup (za_cons (z_str [114, 111, 119] (by decide +kernel)) (za_cons (z_tup (za_cons (z_tup (za_cons (z_str [119, 111, 114, 100] (by decide +kernel)) (za_cons (z_g g_L_taken rfl hr (pz_takes (takes_of rfl rfl rfl rfl)) (by rfl) (za_cons (z_var 2 (pv 2)) (za_cons z_int za_nil))) za_nil))) (za_cons (z_g g_L_clear rfl hr (pz_takes (takes_of rfl rfl rfl rfl)) (by rfl) (za_cons (z_var 0 (pv 0)) (za_cons (z_var 1 (pv 1)) (za_cons (z_var 2 (pv 2)) (za_cons (z_bin op_sub so_sub (z_var 3 (pv 3)) z_int) (za_cons (z_var 4 (pv 4)) za_nil)))))) za_nil))) za_nil)))))

theorem sc_L_clear : FnScope ["_law_script", "_law_at", "_law_pool_here", "_law_deep", "_law_room", "_law_way", "_law_many", "_law_k", "_law_parts", "_law_between"] ["_law_script", "_law_at", "_law_pool_here", "_law_deep", "_law_room"] S_L_clear := ⟨rfl, rfl, rfl, by decide +kernel, rfl, by decide +kernel, by decide +kernel⟩
theorem ok_L_clear {k : Nat} {T : Nat → Fn} {f : Addr} {fd : FuncData} (Fu : Fun G.K "_law_clear" "_law_clear" st_L_clear f fd) (m_range : mg "range" = none) (m_tuple : mg "tuple" = none) (g_L_draw : GFn P w G mg base "_law_draw" k f_L_draw []) (g_L_leaf : GFn P w G mg base "_law_leaf" k f_L_leaf []) (g_L_clear : GFn P w G mg base "_law_clear" k (T 1) []) (g_L_opened : GFn P w G mg base "_law_opened" k (T 0) []) (g_L_taken : GFn P w G mg base "_law_taken" k f_L_taken []) : FnOk P w G.K mg base (L2.CX P w) (k + 1) f fd ["_law_script", "_law_at", "_law_pool_here", "_law_deep", "_law_room"] (spF G (b_L_clear T)) :=
  ok_defS (k := k) hS_L_clear Fu sc_L_clear fun cdv A outer s H E hr =>
    (zs_cons (zs_put (hu_of hr) (z_var 4 (pv 4)) z_int (z_bin op_sub so_sub (z_ix rfl (hu_of hr) (z_var 4 (pv 4)) z_int (fun _ _ => rfl)) z_int) (pg_sub (z_var 4 (pv 4)) z_int (set_Z (hu_of hr)))) (zs_cons (zs_set (i := 5) (pg_name (i := 5) sc_L_clear.nd rfl (Or.inl rfl)) (z_g g_L_draw rfl hr (pz_takes (takes_of rfl rfl rfl rfl)) (by rfl) (za_cons (z_var 0 (pv 0)) (za_cons (z_var 1 (pv 1)) (za_cons z_int za_nil))))) (zs_cons (zs_if (PW.pt (zw_or (zt_cmp op_ltZ so_lt (z_var 3 (pv 3)) z_int (nomark _)) (zw_or (zt_cmp op_ltZ so_lt (z_ix rfl (hu_of hr) (z_var 4 (pv 4)) z_int (fun _ _ => rfl)) z_int (nomark _)) (zw_or1 (zt_cmp op_ltZ so_lt (z_var 5 (pv 5)) z_int (nomark _)))))) (zs_one (zs_ret (z_g g_L_leaf rfl hr (pz_takes (takes_of rfl rfl rfl rfl)) (by rfl) (za_cons (z_var 0 (pv 0)) (za_cons (z_var 1 (pv 1)) (za_cons (z_var 2 (pv 2)) za_nil)))))) zs_nil) (zs_cons (zs_if (zt_cmp op_ltZ so_lt (z_var 5 (pv 5)) z_int (nomark _)) (zs_cons (zs_set (i := 6) (pg_name (i := 6) sc_L_clear.nd rfl (Or.inl rfl)) (z_g g_L_draw rfl hr (pz_takes (takes_of rfl rfl rfl rfl)) (by rfl) (za_cons (z_var 0 (pv 0)) (za_cons (z_var 1 (pv 1)) (za_cons z_int za_nil))))) (zs_one (zs_ret (z_tup (za_cons (z_str [114, 111, 119] (by decide +kernel)) (za_cons (z_bty call_tuple_of (so_tuple rfl) (by rfl) m_tuple (by decide +kernel) (za_cons (z_frz (by exact (z_lcW rfl sc_L_clear.nd (zi_wk (zi_rng1 (by rfl) m_range (za_cons (z_var 6 (pv 6)) za_nil))) (blkOk_by (own := [("_law_k", 7)]) (N := ["_law_script", "_law_at", "_law_pool_here", "_law_deep", "_law_room", "_law_way", "_law_many", "_law_k", "_law_parts", "_law_between"]) (sc := S_L_clear) (by decide +kernel)) rfl (zg_name 7) (by decide) (fun _ _ _ _ _ => (pg_name (i := 7) sc_L_clear.nd rfl (Or.inl rfl))) (fun _ _ _ _ _ => zts_nil) (fun _ _ _ _ _ => (z_g g_L_clear rfl hr pz_never (by rfl) (za_cons (z_var 0 (pv 0)) (za_cons (z_var 1 (pv 1)) (za_cons (z_var 2 (pv 2)) (za_cons (z_bin op_sub so_sub (z_var 3 (pv 3)) z_int) (za_cons (z_var 4 (pv 4)) za_nil)))))))))) za_nil)) za_nil)))))) zs_nil) (zs_cons (zs_if (zt_cmp op_ltZ so_lt (z_var 5 (pv 5)) z_int (nomark _)) (zs_cons (zs_set (i := 8) (pg_name (i := 8) sc_L_clear.nd rfl (Or.inl rfl)) (z_lstC (za_cons (z_g g_L_clear rfl hr (pz_takes (takes_of rfl rfl rfl rfl)) (by rfl) (za_cons (z_var 0 (pv 0)) (za_cons (z_var 1 (pv 1)) (za_cons (z_var 2 (pv 2)) (za_cons (z_bin op_sub so_sub (z_var 3 (pv 3)) z_int) (za_cons (z_var 4 (pv 4)) za_nil)))))) za_nil))) (zs_cons (zs_forW (passes_of rfl) rfl (zi_wk (zi_rng1 (by rfl) m_range (za_cons (z_bin op_addZ (so_add rfl) z_int (z_g g_L_draw rfl hr (pz_takes (takes_of rfl rfl rfl rfl)) (by rfl) (za_cons (z_var 0 (pv 0)) (za_cons (z_var 1 (pv 1)) (za_cons z_int za_nil))))) za_nil))) (pg_name (i := 7) sc_L_clear.nd rfl (Or.inl rfl)) (zg_name 7) (zs_one (zs_ex (z_bm rfl PySem.F.plainAttrs_list PySem.F.slot_list_append PySem.F.type_list_append mt_append so_app (z_var 8 (pv 8)) (za_cons (z_g g_L_opened rfl hr (pz_takes (takes_of rfl rfl rfl rfl)) (by rfl) (za_cons (z_var 0 (pv 0)) (za_cons (z_var 1 (pv 1)) (za_cons (z_var 2 (pv 2)) (za_cons (z_var 3 (pv 3)) (za_cons (z_var 4 (pv 4)) za_nil)))))) za_nil))))) (zs_one (zs_ret (z_tup (za_cons (z_str [112, 105, 99, 107] (by decide +kernel)) (za_cons (z_bty call_tuple_of (so_tuple rfl) (by rfl) m_tuple (by decide +kernel) (za_cons (z_var 8 (pv 8)) za_nil)) za_nil))))))) zs_nil) (zs_cons (zs_set (i := 9) (pg_name (i := 9) sc_L_clear.nd rfl (Or.inl rfl)) (z_g g_L_taken rfl hr (pz_takes (takes_of rfl rfl rfl rfl)) (by rfl) (za_cons (z_var 2 (pv 2)) (za_cons (z_g g_L_draw rfl hr (pz_takes (takes_of rfl rfl rfl rfl)) (by rfl) (za_cons (z_var 0 (pv 0)) (za_cons (z_var 1 (pv 1)) (za_cons z_int za_nil)))) za_nil)))) (zs_cons (zs_if (PW.pt (zw_and (zt_cmp (op_neP hr.units) (so_ne rfl) (z_var 9 (pv 9)) (z_str [] (by decide +kernel)) (nomark _)) (zw_and1 (zt_cmp (op_eqP hr.units) (so_eq rfl) (z_var 5 (pv 5)) z_int (nomark _))))) (zs_one (zs_ret (z_tup (za_cons (z_str [109, 97, 110, 121] (by decide +kernel)) (za_cons (z_tup (za_cons (z_str [114, 117, 110] (by decide +kernel)) (za_cons (z_g g_L_taken rfl hr (pz_takes (takes_of rfl rfl rfl rfl)) (by rfl) (za_cons (z_var 2 (pv 2)) (za_cons z_int za_nil))) (za_cons z_int (za_cons (z_bin op_addZ (so_add rfl) z_int (z_g g_L_draw rfl hr (pz_takes (takes_of rfl rfl rfl rfl)) (by rfl) (za_cons (z_var 0 (pv 0)) (za_cons (z_var 1 (pv 1)) (za_cons z_int za_nil))))) za_nil))))) (za_cons (z_var 9 (pv 9)) za_nil)))))) zs_nil) (zs_one (zs_ret (z_tup (za_cons (z_str [109, 97, 110, 121] (by decide +kernel)) (za_cons (z_g g_L_opened rfl hr (pz_takes (takes_of rfl rfl rfl rfl)) (by rfl) (za_cons (z_var 0 (pv 0)) (za_cons (z_var 1 (pv 1)) (za_cons (z_var 2 (pv 2)) (za_cons (z_var 3 (pv 3)) (za_cons (z_var 4 (pv 4)) za_nil)))))) (za_cons (z_var 9 (pv 9)) za_nil)))))))))))))

theorem sc_Many_init : FnScope ["self", "part", "between"] ["self", "part", "between"] S_Many_init := ⟨rfl, rfl, rfl, by decide +kernel, rfl, by decide +kernel, by decide +kernel⟩
theorem ok_Many_init {k : Nat} {f : Addr} {fd : FuncData} (Fu : FunV G.K "__init__" "Many.__init__" st_Many_init [.str ""] f fd) (CT : CtOk G ct) : FnOk P w G.K mg base (L2.CX P w) (k + 1) f fd ["self", "part", "between"] (spF G f_Many_init) :=
  ok_defV (k := k) hS_Many_init Fu sc_Many_init fun cdv A outer s H E hr =>
    (zs_cons (zs_fld CT "part" rfl rfl (z_var 0 (pv 0)) (z_var 1 (pv 1))) (zs_one (zs_fld CT "between" rfl rfl (z_var 0 (pv 0)) (z_var 2 (pv 2)))))

theorem sc_Word_init : FnScope ["self", "text"] ["self", "text"] S_Word_init := ⟨rfl, rfl, rfl, by decide +kernel, rfl, by decide +kernel, by decide +kernel⟩
theorem ok_Word_init {k : Nat} {f : Addr} {fd : FuncData} (Fu : Fun G.K "__init__" "Word.__init__" st_Word_init f fd) (CT : CtOk G ct) : FnOk P w G.K mg base (L2.CX P w) (k + 1) f fd ["self", "text"] (spF G f_Word_init) :=
  ok_defS (k := k) hS_Word_init Fu sc_Word_init fun cdv A outer s H E hr =>
    (zs_one (zs_fld CT "text" rfl rfl (z_var 0 (pv 0)) (z_var 1 (pv 1))))

theorem sc_Run_init : FnScope ["self", "signs", "least", "most"] ["self", "signs", "least", "most"] S_Run_init := ⟨rfl, rfl, rfl, by decide +kernel, rfl, by decide +kernel, by decide +kernel⟩
theorem ok_Run_init {k : Nat} {f : Addr} {fd : FuncData} (Fu : Fun G.K "__init__" "Run.__init__" st_Run_init f fd) (CT : CtOk G ct) : FnOk P w G.K mg base (L2.CX P w) (k + 1) f fd ["self", "signs", "least", "most"] (spF G f_Run_init) :=
  ok_defS (k := k) hS_Run_init Fu sc_Run_init fun cdv A outer s H E hr =>
    (zs_cons (zs_fld CT "signs" rfl rfl (z_var 0 (pv 0)) (z_var 1 (pv 1))) (zs_cons (zs_fld CT "least" rfl rfl (z_var 0 (pv 0)) (z_var 2 (pv 2))) (zs_one (zs_fld CT "most" rfl rfl (z_var 0 (pv 0)) (z_var 3 (pv 3))))))

theorem sc_Row_init : FnScope ["self", "parts"] ["self", "parts"] S_Row_init := ⟨rfl, rfl, rfl, by decide +kernel, rfl, by decide +kernel, by decide +kernel⟩
theorem ok_Row_init {k : Nat} {f : Addr} {fd : FuncData} (Fu : FunV G.K "__init__" "Row.__init__" st_Row_init [.non] f fd) (m_list : mg "list" = none) (CT : CtOk G ct) : FnOk P w G.K mg base (L2.CX P w) (k + 1) f fd ["self", "parts"] (spF G f_Row_init) :=
  ok_defV (k := k) hS_Row_init Fu sc_Row_init fun cdv A outer s H E hr =>
    (zs_cons (zs_fld CT "parts" rfl rfl (z_var 0 (pv 0)) (z_lst za_nil)) (zs_one (zs_if (zt_cmp op_notN so_notN (z_var 1 (pv 1)) z_non (nomark _)) (zs_one (zs_fld CT "parts" rfl rfl (z_var 0 (pv 0)) (z_bty call_list_of (so_list rfl) (by rfl) m_list (by decide +kernel) (za_cons (z_var 1 (pv 1)) za_nil)))) zs_nil)))

theorem sc_Pick_init : FnScope ["self", "parts"] ["self", "parts"] S_Pick_init := ⟨rfl, rfl, rfl, by decide +kernel, rfl, by decide +kernel, by decide +kernel⟩
theorem ok_Pick_init {k : Nat} {f : Addr} {fd : FuncData} (Fu : Fun G.K "__init__" "Pick.__init__" st_Pick_init f fd) (m_list : mg "list" = none) (CT : CtOk G ct) : FnOk P w G.K mg base (L2.CX P w) (k + 1) f fd ["self", "parts"] (spF G f_Pick_init) :=
  ok_defS (k := k) hS_Pick_init Fu sc_Pick_init fun cdv A outer s H E hr =>
    (zs_one (zs_fld CT "parts" rfl rfl (z_var 0 (pv 0)) (z_bty call_list_of (so_list rfl) (by rfl) m_list (by decide +kernel) (za_cons (z_var 1 (pv 1)) za_nil))))

theorem sc_L_real : FnScope ["_law_kind", "_law_part"] ["_law_kind"] S_L_real := ⟨rfl, rfl, rfl, by decide +kernel, rfl, by decide +kernel, by decide +kernel⟩
theorem ok_L_real {k : Nat} {T : Nat → Fn} {f : Addr} {fd : FuncData} (Fu : Fun G.K "_law_real" "_law_real" st_L_real f fd) (k_Word : KGn P w G mg base "Word" "Word" k f_Word_init []) (k_Run : KGn P w G mg base "Run" "Run" k f_Run_init []) (k_Row : KGn P w G mg base "Row" "Row" k f_Row_init []) (g_L_real : GFn P w G mg base "_law_real" k (T 0) []) (k_Pick : KGn P w G mg base "Pick" "Pick" k f_Pick_init []) (k_Many : KGn P w G mg base "Many" "Many" k f_Many_init []) : FnOk P w G.K mg base (L2.CX P w) (k + 1) f fd ["_law_kind"] (spF G (b_L_real T)) :=
  ok_defS (k := k) hS_L_real Fu sc_L_real fun cdv A outer s H E hr =>
    (zs_cons (zs_if (zt_cmp (op_eqP hr.units) (so_eq rfl) (z_ix rfl (hu_of hr) (z_var 0 (pv 0)) z_int (fun _ _ => rfl)) (z_str [119, 111, 114, 100] (by decide +kernel)) (nomark _)) (zs_one (zs_ret (z_frz (z_mk k_Word rfl hr (pz_takes (takes_of rfl rfl rfl rfl)) (by rfl) (za_cons (z_ix rfl (hu_of hr) (z_var 0 (pv 0)) z_int (fun _ _ => rfl)) za_nil))))) zs_nil) (zs_cons (zs_if (zt_cmp (op_eqP hr.units) (so_eq rfl) (z_ix rfl (hu_of hr) (z_var 0 (pv 0)) z_int (fun _ _ => rfl)) (z_str [114, 117, 110] (by decide +kernel)) (nomark _)) (zs_one (zs_ret (z_frz (z_mk k_Run rfl hr (pz_takes (takes_of rfl rfl rfl rfl)) (by rfl) (za_cons (z_ix rfl (hu_of hr) (z_var 0 (pv 0)) z_int (fun _ _ => rfl)) (za_cons (z_ix rfl (hu_of hr) (z_var 0 (pv 0)) z_int (fun _ _ => rfl)) (za_cons (z_ix rfl (hu_of hr) (z_var 0 (pv 0)) z_int (fun _ _ => rfl)) za_nil))))))) zs_nil) (zs_cons (zs_if (zt_cmp (op_eqP hr.units) (so_eq rfl) (z_ix rfl (hu_of hr) (z_var 0 (pv 0)) z_int (fun _ _ => rfl)) (z_str [114, 111, 119] (by decide +kernel)) (nomark _)) (zs_one (zs_ret (z_frz (z_mk k_Row rfl hr (pz_takes (takes_of rfl rfl rfl rfl)) (by rfl) (za_cons (z_frz (z_lcW rfl sc_L_real.nd (zi_seqW rfl (z_ix rfl (hu_of hr) (z_var 0 (pv 0)) z_int (fun _ _ => rfl))) (blkOk_by (own := [("_law_part", 1)]) (N := ["_law_kind", "_law_part"]) (sc := S_L_real) (by decide +kernel)) rfl (zg_name 1) (by decide) (fun _ _ _ _ _ => (pg_name (i := 1) sc_L_real.nd rfl (Or.inl rfl))) (fun _ _ _ _ _ => zts_nil) (fun _ _ _ _ _ => (z_g g_L_real rfl hr pz_never (by rfl) (za_cons (z_var 1 (pv 1)) za_nil))))) za_nil))))) zs_nil) (zs_cons (zs_if (zt_cmp (op_eqP hr.units) (so_eq rfl) (z_ix rfl (hu_of hr) (z_var 0 (pv 0)) z_int (fun _ _ => rfl)) (z_str [112, 105, 99, 107] (by decide +kernel)) (nomark _)) (zs_one (zs_ret (z_frz (z_mk k_Pick rfl hr (pz_takes (takes_of rfl rfl rfl rfl)) (by rfl) (za_cons (z_frz (z_lcW rfl sc_L_real.nd (zi_seqW rfl (z_ix rfl (hu_of hr) (z_var 0 (pv 0)) z_int (fun _ _ => rfl))) (blkOk_by (own := [("_law_part", 1)]) (N := ["_law_kind", "_law_part"]) (sc := S_L_real) (by decide +kernel)) rfl (zg_name 1) (by decide) (fun _ _ _ _ _ => (pg_name (i := 1) sc_L_real.nd rfl (Or.inl rfl))) (fun _ _ _ _ _ => zts_nil) (fun _ _ _ _ _ => (z_g g_L_real rfl hr pz_never (by rfl) (za_cons (z_var 1 (pv 1)) za_nil))))) za_nil))))) zs_nil) (zs_one (zs_ret (z_frz (z_mk k_Many rfl hr (pz_takes (takes_of rfl rfl rfl rfl)) (by rfl) (za_cons (z_g g_L_real rfl hr (pz_takes (takes_of rfl rfl rfl rfl)) (by rfl) (za_cons (z_ix rfl (hu_of hr) (z_var 0 (pv 0)) z_int (fun _ _ => rfl)) za_nil)) (za_cons (z_ix rfl (hu_of hr) (z_var 0 (pv 0)) z_int (fun _ _ => rfl)) za_nil))))))))))

theorem sc_Kind_written : FnScope ["self"] ["self"] S_Kind_written := ⟨rfl, rfl, rfl, by decide +kernel, rfl, by decide +kernel, by decide +kernel⟩
theorem ok_Kind_written {k : Nat} {f : Addr} {fd : FuncData} (Fu : Fun G.K "written" "Kind.written" st_Kind_written f fd) : FnOk P w G.K mg base (L2.CX P w) (k + 1) f fd ["self"] (spF G f_Kind_written) :=
  ok_defS (k := k) hS_Kind_written Fu sc_Kind_written fun cdv A outer s H E hr =>
    (zs_one (zs_ret (z_str [] (by decide +kernel))))

theorem sc_quoted : FnScope ["text"] ["text"] S_quoted := ⟨rfl, rfl, rfl, by decide +kernel, rfl, by decide +kernel, by decide +kernel⟩
theorem ok_quoted {k : Nat} {f : Addr} {fd : FuncData} (Fu : Fun G.K "quoted" "quoted" st_quoted f fd) : FnOk P w G.K mg base (L2.CX P w) (k + 1) f fd ["text"] (spF G f_quoted) :=
  ok_defS (k := k) hS_quoted Fu sc_quoted fun cdv A outer s H E hr =>
    (zs_one (zs_ret (z_bin op_addZ (so_add rfl) (z_addRep (c := [39]) (y := [39]) (z := [39, 39]) (by decide +kernel) (by decide +kernel) (by decide +kernel) (by decide +kernel) (z_var 0 (pv 0))) (z_str [39] (by decide +kernel)))))

theorem sc_Word_written : FnScope ["self"] ["self"] S_Word_written := ⟨rfl, rfl, rfl, by decide +kernel, rfl, by decide +kernel, by decide +kernel⟩
theorem ok_Word_written {k : Nat} {f : Addr} {fd : FuncData} (Fu : Fun G.K "written" "Word.written" st_Word_written f fd) (g_quoted : GFn P w G mg base "quoted" k f_quoted []) (CT : CtOk G ct) : FnOk P w G.K mg base (L2.CX P w) (k + 1) f fd ["self"] (spF G f_Word_written) :=
  ok_defS (k := k) hS_Word_written Fu sc_Word_written fun cdv A outer s H E hr =>
    (zs_one (zs_ret (z_g g_quoted rfl hr (pz_takes (takes_of rfl rfl rfl rfl)) (by rfl) (za_cons (z_fld CT "text" rfl rfl (z_var 0 (pv 0))) za_nil))))

theorem sc_Run_written : FnScope ["self"] ["self"] S_Run_written := ⟨rfl, rfl, rfl, by decide +kernel, rfl, by decide +kernel, by decide +kernel⟩
theorem ok_Run_written {k : Nat} {f : Addr} {fd : FuncData} (Fu : Fun G.K "written" "Run.written" st_Run_written f fd) (m_str : mg "str" = none) (g_quoted : GFn P w G mg base "quoted" k f_quoted []) (CT : CtOk G ct) : FnOk P w G.K mg base (L2.CX P w) (k + 1) f fd ["self"] (spF G f_Run_written) :=
  ok_defS (k := k) hS_Run_written Fu sc_Run_written fun cdv A outer s H E hr =>
    (zs_one (zs_ret (z_bin op_addZ (so_add rfl) (z_bin op_addZ (so_add rfl) (z_bin op_addZ (so_add rfl) (z_bin op_addZ (so_add rfl) (z_bin op_addZ (so_add rfl) (z_bin op_addZ (so_add rfl) (z_str [60] (by decide +kernel)) (z_g g_quoted rfl hr (pz_takes (takes_of rfl rfl rfl rfl)) (by rfl) (za_cons (z_fld CT "signs" rfl rfl (z_var 0 (pv 0))) za_nil))) (z_str [32] (by decide +kernel))) (z_bty call_str_int so_str (by rfl) m_str (by decide +kernel) (za_cons (z_fld CT "least" rfl rfl (z_var 0 (pv 0))) za_nil))) (z_str [32] (by decide +kernel))) (z_bty call_str_int so_str (by rfl) m_str (by decide +kernel) (za_cons (z_fld CT "most" rfl rfl (z_var 0 (pv 0))) za_nil))) (z_str [62] (by decide +kernel)))))

theorem sc_Kind_item : FnScope ["self"] ["self"] S_Kind_item := ⟨rfl, rfl, rfl, by decide +kernel, rfl, by decide +kernel, by decide +kernel⟩
theorem ok_Kind_item {k : Nat} {T : Nat → Fn} {f : Addr} {fd : FuncData} (Fu : Fun G.K "item" "Kind.item" st_Kind_item f fd) (ms_written : MsOk P w G mg base k "written" [("Kind", f_Kind_written, []), ("Word", f_Word_written, []), ("Run", f_Run_written, []), ("Row", (T 2), []), ("Pick", (T 4), []), ("Many", (T 7), [])]) : FnOk P w G.K mg base (L2.CX P w) (k + 1) f fd ["self"] (spF G (b_Kind_item T)) :=
  ok_defS (k := k) hS_Kind_item Fu sc_Kind_item fun cdv A outer s H E hr =>
    (zs_one (zs_ret (z_meth0 "written" rfl ms_written rfl hr (pz_takes (takes_of rfl rfl rfl rfl)) (z_var 0 (pv 0)))))

theorem sc_Kind_alt : FnScope ["self"] ["self"] S_Kind_alt := ⟨rfl, rfl, rfl, by decide +kernel, rfl, by decide +kernel, by decide +kernel⟩
theorem ok_Kind_alt {k : Nat} {T : Nat → Fn} {f : Addr} {fd : FuncData} (Fu : Fun G.K "alt" "Kind.alt" st_Kind_alt f fd) (ms_written : MsOk P w G mg base k "written" [("Kind", f_Kind_written, []), ("Word", f_Word_written, []), ("Run", f_Run_written, []), ("Row", (T 2), []), ("Pick", (T 4), []), ("Many", (T 7), [])]) : FnOk P w G.K mg base (L2.CX P w) (k + 1) f fd ["self"] (spF G (b_Kind_alt T)) :=
  ok_defS (k := k) hS_Kind_alt Fu sc_Kind_alt fun cdv A outer s H E hr =>
    (zs_one (zs_ret (z_meth0 "written" rfl ms_written rfl hr (pz_takes (takes_of rfl rfl rfl rfl)) (z_var 0 (pv 0)))))

theorem sc_Row_written : FnScope ["self", "found", "part"] ["self"] S_Row_written := ⟨rfl, rfl, rfl, by decide +kernel, rfl, by decide +kernel, by decide +kernel⟩
theorem ok_Row_written {k : Nat} {T : Nat → Fn} {f : Addr} {fd : FuncData} (Fu : Fun G.K "written" "Row.written" st_Row_written f fd) (m_len : mg "len" = none) (CT : CtOk G ct) (ms_item : MsOk P w G mg base k "item" [("Kind", (T 0), []), ("Word", (T 0), []), ("Run", (T 0), []), ("Row", (T 3), []), ("Pick", (T 5), []), ("Many", (T 0), [])]) : FnOk P w G.K mg base (L2.CX P w) (k + 1) f fd ["self"] (spF G (b_Row_written T)) :=
  ok_defS (k := k) hS_Row_written Fu sc_Row_written fun cdv A outer s H E hr =>
    (zs_cons (zs_set (i := 1) (pg_name (i := 1) sc_Row_written.nd rfl (Or.inl rfl)) (z_bm rfl PySem.F.plainAttrs_str PySem.F.slot_str_join PySem.F.type_str_join mt_join (so_join rfl) (z_str [32] (by decide +kernel)) (za_cons (z_frz (z_lcW rfl sc_Row_written.nd (zi_seqW rfl (z_fld CT "parts" rfl rfl (z_var 0 (pv 0)))) (blkOk_by (own := [("part", 2)]) (N := ["self", "found", "part"]) (sc := S_Row_written) (by decide +kernel)) rfl (zg_name 2) (by decide) (fun _ _ _ _ _ => (pg_name (i := 2) sc_Row_written.nd rfl (Or.inl rfl))) (fun _ _ _ _ _ => zts_nil) (fun _ _ _ _ _ => (z_meth0 "item" rfl ms_item rfl hr pz_never (z_var 2 (pv 2)))))) za_nil))) (zs_cons (zs_if (zt_cmp op_ltZ so_lt (z_blt call_lenZ (so_len rfl) (by rfl) m_len (by decide +kernel) (za_cons (z_fld CT "parts" rfl rfl (z_var 0 (pv 0))) za_nil)) z_int (nomark _)) (zs_one (zs_ret (z_bin op_addZ (so_add rfl) (z_bin op_addZ (so_add rfl) (z_str [40] (by decide +kernel)) (z_var 1 (pv 1))) (z_str [41] (by decide +kernel))))) zs_nil) (zs_one (zs_ret (z_var 1 (pv 1))))))

theorem sc_Row_item : FnScope ["self"] ["self"] S_Row_item := ⟨rfl, rfl, rfl, by decide +kernel, rfl, by decide +kernel, by decide +kernel⟩
theorem ok_Row_item {k : Nat} {T : Nat → Fn} {f : Addr} {fd : FuncData} (Fu : Fun G.K "item" "Row.item" st_Row_item f fd) (m_len : mg "len" = none) (CT : CtOk G ct) (ms_written : MsOk P w G mg base k "written" [("Kind", f_Kind_written, []), ("Word", f_Word_written, []), ("Run", f_Run_written, []), ("Row", (T 2), []), ("Pick", (T 4), []), ("Many", (T 7), [])]) : FnOk P w G.K mg base (L2.CX P w) (k + 1) f fd ["self"] (spF G (b_Row_item T)) :=
  ok_defS (k := k) hS_Row_item Fu sc_Row_item fun cdv A outer s H E hr =>
    (zs_cons (zs_if (zt_cmp op_ltZ so_lt (z_blt call_lenZ (so_len rfl) (by rfl) m_len (by decide +kernel) (za_cons (z_fld CT "parts" rfl rfl (z_var 0 (pv 0))) za_nil)) z_int (nomark _)) (zs_one (zs_ret (z_meth0 "written" rfl ms_written rfl hr (pz_takes (takes_of rfl rfl rfl rfl)) (z_var 0 (pv 0))))) zs_nil) (zs_one (zs_ret (z_bin op_addZ (so_add rfl) (z_bin op_addZ (so_add rfl) (z_str [40] (by decide +kernel)) (z_meth0 "written" rfl ms_written rfl hr (pz_takes (takes_of rfl rfl rfl rfl)) (z_var 0 (pv 0)))) (z_str [41] (by decide +kernel))))))

theorem sc_Pick_written : FnScope ["self", "part"] ["self"] S_Pick_written := ⟨rfl, rfl, rfl, by decide +kernel, rfl, by decide +kernel, by decide +kernel⟩
theorem ok_Pick_written {k : Nat} {T : Nat → Fn} {f : Addr} {fd : FuncData} (Fu : Fun G.K "written" "Pick.written" st_Pick_written f fd) (CT : CtOk G ct) (ms_alt : MsOk P w G mg base k "alt" [("Kind", (T 1), []), ("Word", (T 1), []), ("Run", (T 1), []), ("Row", (T 1), []), ("Pick", (T 6), []), ("Many", (T 1), [])]) : FnOk P w G.K mg base (L2.CX P w) (k + 1) f fd ["self"] (spF G (b_Pick_written T)) :=
  ok_defS (k := k) hS_Pick_written Fu sc_Pick_written fun cdv A outer s H E hr =>
    (zs_one (zs_ret (z_bm rfl PySem.F.plainAttrs_str PySem.F.slot_str_join PySem.F.type_str_join mt_join (so_join rfl) (z_str [32, 124, 32] (by decide +kernel)) (za_cons (z_frz (z_lcW rfl sc_Pick_written.nd (zi_seqW rfl (z_fld CT "parts" rfl rfl (z_var 0 (pv 0)))) (blkOk_by (own := [("part", 1)]) (N := ["self", "part"]) (sc := S_Pick_written) (by decide +kernel)) rfl (zg_name 1) (by decide) (fun _ _ _ _ _ => (pg_name (i := 1) sc_Pick_written.nd rfl (Or.inl rfl))) (fun _ _ _ _ _ => zts_nil) (fun _ _ _ _ _ => (z_meth0 "alt" rfl ms_alt rfl hr pz_never (z_var 1 (pv 1)))))) za_nil))))

theorem sc_Pick_item : FnScope ["self"] ["self"] S_Pick_item := ⟨rfl, rfl, rfl, by decide +kernel, rfl, by decide +kernel, by decide +kernel⟩
theorem ok_Pick_item {k : Nat} {T : Nat → Fn} {f : Addr} {fd : FuncData} (Fu : Fun G.K "item" "Pick.item" st_Pick_item f fd) (ms_written : MsOk P w G mg base k "written" [("Kind", f_Kind_written, []), ("Word", f_Word_written, []), ("Run", f_Run_written, []), ("Row", (T 2), []), ("Pick", (T 4), []), ("Many", (T 7), [])]) : FnOk P w G.K mg base (L2.CX P w) (k + 1) f fd ["self"] (spF G (b_Pick_item T)) :=
  ok_defS (k := k) hS_Pick_item Fu sc_Pick_item fun cdv A outer s H E hr =>
    (zs_one (zs_ret (z_bin op_addZ (so_add rfl) (z_bin op_addZ (so_add rfl) (z_str [40] (by decide +kernel)) (z_meth0 "written" rfl ms_written rfl hr (pz_takes (takes_of rfl rfl rfl rfl)) (z_var 0 (pv 0)))) (z_str [41] (by decide +kernel)))))

theorem sc_Pick_alt : FnScope ["self"] ["self"] S_Pick_alt := ⟨rfl, rfl, rfl, by decide +kernel, rfl, by decide +kernel, by decide +kernel⟩
theorem ok_Pick_alt {k : Nat} {T : Nat → Fn} {f : Addr} {fd : FuncData} (Fu : Fun G.K "alt" "Pick.alt" st_Pick_alt f fd) (ms_written : MsOk P w G mg base k "written" [("Kind", f_Kind_written, []), ("Word", f_Word_written, []), ("Run", f_Run_written, []), ("Row", (T 2), []), ("Pick", (T 4), []), ("Many", (T 7), [])]) : FnOk P w G.K mg base (L2.CX P w) (k + 1) f fd ["self"] (spF G (b_Pick_alt T)) :=
  ok_defS (k := k) hS_Pick_alt Fu sc_Pick_alt fun cdv A outer s H E hr =>
    (zs_one (zs_ret (z_bin op_addZ (so_add rfl) (z_bin op_addZ (so_add rfl) (z_str [40] (by decide +kernel)) (z_meth0 "written" rfl ms_written rfl hr (pz_takes (takes_of rfl rfl rfl rfl)) (z_var 0 (pv 0)))) (z_str [41] (by decide +kernel)))))

theorem sc_Many_written : FnScope ["self"] ["self"] S_Many_written := ⟨rfl, rfl, rfl, by decide +kernel, rfl, by decide +kernel, by decide +kernel⟩
theorem ok_Many_written {k : Nat} {T : Nat → Fn} {f : Addr} {fd : FuncData} (Fu : Fun G.K "written" "Many.written" st_Many_written f fd) (CT : CtOk G ct) (ms_written : MsOk P w G mg base k "written" [("Kind", f_Kind_written, []), ("Word", f_Word_written, []), ("Run", f_Run_written, []), ("Row", (T 2), []), ("Pick", (T 4), []), ("Many", (T 7), [])]) (g_quoted : GFn P w G mg base "quoted" k f_quoted []) : FnOk P w G.K mg base (L2.CX P w) (k + 1) f fd ["self"] (spF G (b_Many_written T)) :=
  ok_defS (k := k) hS_Many_written Fu sc_Many_written fun cdv A outer s H E hr =>
    (zs_cons (zs_if (zt_cmp (op_eqP hr.units) (so_eq rfl) (z_fld CT "between" rfl rfl (z_var 0 (pv 0))) (z_str [] (by decide +kernel)) (nomark _)) (zs_one (zs_ret (z_bin op_addZ (so_add rfl) (z_bin op_addZ (so_add rfl) (z_str [123] (by decide +kernel)) (z_meth0 "written" rfl ms_written rfl hr (pz_takes (takes_of rfl rfl rfl rfl)) (z_fld CT "part" rfl rfl (z_var 0 (pv 0))))) (z_str [125] (by decide +kernel))))) zs_nil) (zs_one (zs_ret (z_bin op_addZ (so_add rfl) (z_bin op_addZ (so_add rfl) (z_bin op_addZ (so_add rfl) (z_bin op_addZ (so_add rfl) (z_str [123] (by decide +kernel)) (z_meth0 "written" rfl ms_written rfl hr (pz_takes (takes_of rfl rfl rfl rfl)) (z_fld CT "part" rfl rfl (z_var 0 (pv 0))))) (z_str [32, 47, 32] (by decide +kernel))) (z_g g_quoted rfl hr (pz_takes (takes_of rfl rfl rfl rfl)) (by rfl) (za_cons (z_fld CT "between" rfl rfl (z_var 0 (pv 0))) za_nil))) (z_str [125] (by decide +kernel))))))

theorem sc_Laying_init : FnScope ["self"] ["self"] S_Laying_init := ⟨rfl, rfl, rfl, by decide +kernel, rfl, by decide +kernel, by decide +kernel⟩
theorem ok_Laying_init {k : Nat} {f : Addr} {fd : FuncData} (Fu : Fun G.K "__init__" "Laying.__init__" st_Laying_init f fd) (CT : CtOk G ct) : FnOk P w G.K mg base (L2.CX P w) (k + 1) f fd ["self"] (spF G f_Laying_init) :=
  ok_defS (k := k) hS_Laying_init Fu sc_Laying_init fun cdv A outer s H E hr =>
    (zs_one (zs_fld CT "heap" rfl rfl (z_var 0 (pv 0)) (z_lstC za_nil)))

theorem sc_Laying_lay : FnScope ["self", "row"] ["self", "row"] S_Laying_lay := ⟨rfl, rfl, rfl, by decide +kernel, rfl, by decide +kernel, by decide +kernel⟩
theorem ok_Laying_lay {k : Nat} {f : Addr} {fd : FuncData} (Fu : Fun G.K "lay" "Laying.lay" st_Laying_lay f fd) (m_len : mg "len" = none) (CT : CtOk G ct) : FnOk P w G.K mg base (L2.CX P w) (k + 1) f fd ["self", "row"] (spF G f_Laying_lay) :=
  ok_defS (k := k) hS_Laying_lay Fu sc_Laying_lay fun cdv A outer s H E hr =>
    (zs_cons (zs_ex (z_bm rfl PySem.F.plainAttrs_list PySem.F.slot_list_append PySem.F.type_list_append mt_append so_app (z_fld CT "heap" rfl rfl (z_var 0 (pv 0))) (za_cons (z_var 1 (pv 1)) za_nil))) (zs_one (zs_ret (z_bin op_sub so_sub (z_blt call_lenZ (so_len rfl) (by rfl) m_len (by decide +kernel) (za_cons (z_fld CT "heap" rfl rfl (z_var 0 (pv 0))) za_nil)) z_int))))

theorem sc_Laying_lay_signs : FnScope ["self", "text", "sign"] ["self", "text"] S_Laying_lay_signs := ⟨rfl, rfl, rfl, by decide +kernel, rfl, by decide +kernel, by decide +kernel⟩
theorem ok_Laying_lay_signs {k : Nat} {f : Addr} {fd : FuncData} (Fu : Fun G.K "lay_signs" "Laying.lay_signs" st_Laying_lay_signs f fd) (ms_lay : MsOk P w G mg base k "lay" [("Laying", f_Laying_lay, [])]) : FnOk P w G.K mg base (L2.CX P w) (k + 1) f fd ["self", "text"] (spF G f_Laying_lay_signs) :=
  ok_defS (k := k) hS_Laying_lay_signs Fu sc_Laying_lay_signs fun cdv A outer s H E hr =>
    (zs_one (zs_forW (passes_of rfl) rfl (zi_seqW rfl (z_var 1 (pv 1))) (pg_name (i := 2) sc_Laying_lay_signs.nd rfl (Or.inl rfl)) (zg_name 2) (zs_one (zs_ex (z_meth "lay" rfl ms_lay rfl hr (pz_takes (takes_of rfl rfl rfl rfl)) (z_var 0 (pv 0)) (za_cons (z_tup (za_cons (z_str [115, 105, 103, 110] (by decide +kernel)) (za_cons (z_var 2 (pv 2)) za_nil))) za_nil))))))

theorem sc_Laying_lay_run : FnScope ["self", "kind", "turn", "doors", "behind", "door"] ["self", "kind"] S_Laying_lay_run := ⟨rfl, rfl, rfl, by decide +kernel, rfl, by decide +kernel, by decide +kernel⟩
theorem ok_Laying_lay_run {k : Nat} {f : Addr} {fd : FuncData} (Fu : Fun G.K "lay_run" "Laying.lay_run" st_Laying_lay_run f fd) (m_range : mg "range" = none) (ms_lay : MsOk P w G mg base k "lay" [("Laying", f_Laying_lay, [])]) (CT : CtOk G ct) : FnOk P w G.K mg base (L2.CX P w) (k + 1) f fd ["self", "kind"] (spF G f_Laying_lay_run) :=
  ok_defS (k := k) hS_Laying_lay_run Fu sc_Laying_lay_run fun cdv A outer s H E hr =>
    (zs_cons (zs_ex (z_meth "lay" rfl ms_lay rfl hr (pz_takes (takes_of rfl rfl rfl rfl)) (z_var 0 (pv 0)) (za_cons (z_tup (za_cons (z_str [109, 97, 114, 107] (by decide +kernel)) (za_cons (z_str [114, 117, 110] (by decide +kernel)) (za_cons z_int za_nil)))) za_nil))) (zs_cons (zs_forW (passes_of rfl) rfl (zi_wk (zi_rng1 (by rfl) m_range (za_cons (z_fld CT "least" rfl rfl (z_var 1 (pv 1))) za_nil))) (pg_name (i := 2) sc_Laying_lay_run.nd rfl (Or.inl rfl)) (zg_name 2) (zs_one (zs_ex (z_meth "lay" rfl ms_lay rfl hr (pz_takes (takes_of rfl rfl rfl rfl)) (z_var 0 (pv 0)) (za_cons (z_tup (za_cons (z_str [115, 105, 103, 110] (by decide +kernel)) (za_cons (z_fld CT "signs" rfl rfl (z_var 1 (pv 1))) za_nil))) za_nil))))) (zs_cons (zs_set (i := 3) (pg_name (i := 3) sc_Laying_lay_run.nd rfl (Or.inl rfl)) (z_lstC za_nil)) (zs_cons (zs_forW (passes_of rfl) rfl (zi_wk (zi_rng1 (by rfl) m_range (za_cons (z_bin op_sub so_sub (z_fld CT "most" rfl rfl (z_var 1 (pv 1))) (z_fld CT "least" rfl rfl (z_var 1 (pv 1)))) za_nil))) (pg_name (i := 2) sc_Laying_lay_run.nd rfl (Or.inl rfl)) (zg_name 2) (zs_cons (zs_ex (z_bm rfl PySem.F.plainAttrs_list PySem.F.slot_list_append PySem.F.type_list_append mt_append so_app (z_var 3 (pv 3)) (za_cons (z_meth "lay" rfl ms_lay rfl hr (pz_takes (takes_of rfl rfl rfl rfl)) (z_var 0 (pv 0)) (za_cons (z_tup (za_cons (z_str [101, 110, 100] (by decide +kernel)) za_nil)) za_nil)) za_nil))) (zs_one (zs_ex (z_meth "lay" rfl ms_lay rfl hr (pz_takes (takes_of rfl rfl rfl rfl)) (z_var 0 (pv 0)) (za_cons (z_tup (za_cons (z_str [115, 105, 103, 110] (by decide +kernel)) (za_cons (z_fld CT "signs" rfl rfl (z_var 1 (pv 1))) za_nil))) za_nil)))))) (zs_cons (zs_set (i := 4) (pg_name (i := 4) sc_Laying_lay_run.nd rfl (Or.inl rfl)) (z_meth "lay" rfl ms_lay rfl hr (pz_takes (takes_of rfl rfl rfl rfl)) (z_var 0 (pv 0)) (za_cons (z_tup (za_cons (z_str [109, 97, 114, 107] (by decide +kernel)) (za_cons (z_str [114, 117, 110] (by decide +kernel)) (za_cons z_int za_nil)))) za_nil))) (zs_one (zs_forW (passes_of rfl) rfl (zi_seqW rfl (z_var 3 (pv 3))) (pg_name (i := 5) sc_Laying_lay_run.nd rfl (Or.inl rfl)) (zg_name 5) (zs_one (zs_put (hu_of hr) (z_fld CT "heap" rfl rfl (z_var 0 (pv 0))) (z_var 5 (pv 5)) (z_tup (za_cons (z_str [98, 111, 116, 104] (by decide +kernel)) (za_cons (z_bin op_addZ (so_add rfl) (z_var 5 (pv 5)) z_int) (za_cons (z_var 4 (pv 4)) za_nil)))) (pg_sub (z_fld CT "heap" rfl rfl (z_var 0 (pv 0))) (z_var 5 (pv 5)) (set_Z (hu_of hr))))))))))))

theorem sc_Laying_lay_kind : FnScope ["self", "kind", "part"] ["self", "kind"] S_Laying_lay_kind := ⟨rfl, rfl, rfl, by decide +kernel, rfl, by decide +kernel, by decide +kernel⟩
theorem ok_Laying_lay_kind {k : Nat} {T : Nat → Fn} {f : Addr} {fd : FuncData} (Fu : Fun G.K "lay_kind" "Laying.lay_kind" st_Laying_lay_kind f fd) (m_isinstance : mg "isinstance" = none) (i_Word : IsiG G mg "Word" (.ref (G.cls "Word")) (.ref (G.cls "Word")) is_Word) (n_Word : mg "Word" = some (.ref (G.cls "Word"))) (ms_lay_signs : MsOk P w G mg base k "lay_signs" [("Laying", f_Laying_lay_signs, [])]) (CT : CtOk G ct) (i_Run : IsiG G mg "Run" (.ref (G.cls "Run")) (.ref (G.cls "Run")) is_Run) (n_Run : mg "Run" = some (.ref (G.cls "Run"))) (ms_lay_run : MsOk P w G mg base k "lay_run" [("Laying", f_Laying_lay_run, [])]) (i_Row : IsiG G mg "Row" (.ref (G.cls "Row")) (.ref (G.cls "Row")) is_Row) (n_Row : mg "Row" = some (.ref (G.cls "Row"))) (ms_lay_kind : MsOk P w G mg base k "lay_kind" [("Laying", (T 0), [])]) (i_Pick : IsiG G mg "Pick" (.ref (G.cls "Pick")) (.ref (G.cls "Pick")) is_Pick) (n_Pick : mg "Pick" = some (.ref (G.cls "Pick"))) (ms_lay_pick : MsOk P w G mg base k "lay_pick" [("Laying", (T 1), [])]) (i_Many : IsiG G mg "Many" (.ref (G.cls "Many")) (.ref (G.cls "Many")) is_Many) (n_Many : mg "Many" = some (.ref (G.cls "Many"))) (ms_lay_many : MsOk P w G mg base k "lay_many" [("Laying", (T 2), [])]) : FnOk P w G.K mg base (L2.CX P w) (k + 1) f fd ["self", "kind"] (spF G (b_Laying_lay_kind T)) :=
  ok_defS (k := k) hS_Laying_lay_kind Fu sc_Laying_lay_kind fun cdv A outer s H E hr =>
    (zs_one (zs_if (zt_val (z_isiZ rfl i_Word.cl i_Word.ok (by rfl) m_isinstance (z_var 1 (pv 1)) (pe_glob rfl n_Word rfl))) (zs_one (zs_ex (z_meth "lay_signs" rfl ms_lay_signs rfl hr (pz_takes (takes_of rfl rfl rfl rfl)) (z_var 0 (pv 0)) (za_cons (z_fld CT "text" rfl rfl (z_var 1 (pv 1))) za_nil)))) (zs_one (zs_if (zt_val (z_isiZ rfl i_Run.cl i_Run.ok (by rfl) m_isinstance (z_var 1 (pv 1)) (pe_glob rfl n_Run rfl))) (zs_one (zs_ex (z_meth "lay_run" rfl ms_lay_run rfl hr (pz_takes (takes_of rfl rfl rfl rfl)) (z_var 0 (pv 0)) (za_cons (z_var 1 (pv 1)) za_nil)))) (zs_one (zs_if (zt_val (z_isiZ rfl i_Row.cl i_Row.ok (by rfl) m_isinstance (z_var 1 (pv 1)) (pe_glob rfl n_Row rfl))) (zs_one (zs_forW (passes_of rfl) rfl (zi_seqW rfl (z_fld CT "parts" rfl rfl (z_var 1 (pv 1)))) (pg_name (i := 2) sc_Laying_lay_kind.nd rfl (Or.inl rfl)) (zg_name 2) (zs_one (zs_ex (z_meth "lay_kind" rfl ms_lay_kind rfl hr (pz_takes (takes_of rfl rfl rfl rfl)) (z_var 0 (pv 0)) (za_cons (z_var 2 (pv 2)) za_nil)))))) (zs_one (zs_if (zt_val (z_isiZ rfl i_Pick.cl i_Pick.ok (by rfl) m_isinstance (z_var 1 (pv 1)) (pe_glob rfl n_Pick rfl))) (zs_one (zs_ex (z_meth "lay_pick" rfl ms_lay_pick rfl hr (pz_takes (takes_of rfl rfl rfl rfl)) (z_var 0 (pv 0)) (za_cons (z_fld CT "parts" rfl rfl (z_var 1 (pv 1))) za_nil)))) (zs_one (zs_if (zt_val (z_isiZ rfl i_Many.cl i_Many.ok (by rfl) m_isinstance (z_var 1 (pv 1)) (pe_glob rfl n_Many rfl))) (zs_one (zs_ex (z_meth "lay_many" rfl ms_lay_many rfl hr (pz_takes (takes_of rfl rfl rfl rfl)) (z_var 0 (pv 0)) (za_cons (z_var 1 (pv 1)) za_nil)))) zs_nil))))))))))

theorem sc_Laying_lay_pick : FnScope ["self", "parts", "doors", "place", "part", "door"] ["self", "parts"] S_Laying_lay_pick := ⟨rfl, rfl, rfl, by decide +kernel, rfl, by decide +kernel, by decide +kernel⟩
theorem ok_Laying_lay_pick {k : Nat} {T : Nat → Fn} {f : Addr} {fd : FuncData} (Fu : Fun G.K "lay_pick" "Laying.lay_pick" st_Laying_lay_pick f fd) (m_enumerate : mg "enumerate" = none) (m_len : mg "len" = none) (ms_lay : MsOk P w G mg base k "lay" [("Laying", f_Laying_lay, [])]) (ms_lay_kind : MsOk P w G mg base k "lay_kind" [("Laying", (T 0), [])]) (CT : CtOk G ct) : FnOk P w G.K mg base (L2.CX P w) (k + 1) f fd ["self", "parts"] (spF G (b_Laying_lay_pick T)) :=
  ok_defS (k := k) hS_Laying_lay_pick Fu sc_Laying_lay_pick fun cdv A outer s H E hr =>
    (zs_cons (zs_set (i := 2) (pg_name (i := 2) sc_Laying_lay_pick.nd rfl (Or.inl rfl)) (z_lstC za_nil)) (zs_cons (zs_forW (passes_of rfl) rfl (zi_enumM rfl (by rfl) m_enumerate (za_cons (z_var 1 (pv 1)) za_nil)) (pg_tup rfl (pgs_cons (pg_name (i := 3) sc_Laying_lay_pick.nd rfl (Or.inl rfl)) (pgs_cons (pg_name (i := 4) sc_Laying_lay_pick.nd rfl (Or.inl rfl)) pgs_nil))) (zg_tup (.cons (zg_name 3) (.cons (zg_name 4) .nil)) (len_cons (len_cons len_nil))) (zs_cons (zs_set (i := 5) (pg_name (i := 5) sc_Laying_lay_pick.nd rfl (Or.inl rfl)) (z_meth "lay" rfl ms_lay rfl hr (pz_takes (takes_of rfl rfl rfl rfl)) (z_var 0 (pv 0)) (za_cons (z_tup (za_cons (z_str [101, 110, 100] (by decide +kernel)) za_nil)) za_nil))) (zs_cons (zs_ex (z_meth "lay" rfl ms_lay rfl hr (pz_takes (takes_of rfl rfl rfl rfl)) (z_var 0 (pv 0)) (za_cons (z_tup (za_cons (z_str [109, 97, 114, 107] (by decide +kernel)) (za_cons (z_str [112, 105, 99, 107] (by decide +kernel)) (za_cons (z_var 3 (pv 3)) za_nil)))) za_nil))) (zs_cons (zs_ex (z_meth "lay_kind" rfl ms_lay_kind rfl hr (pz_takes (takes_of rfl rfl rfl rfl)) (z_var 0 (pv 0)) (za_cons (z_var 4 (pv 4)) za_nil))) (zs_cons (zs_ex (z_bm rfl PySem.F.plainAttrs_list PySem.F.slot_list_append PySem.F.type_list_append mt_append so_app (z_var 2 (pv 2)) (za_cons (z_meth "lay" rfl ms_lay rfl hr (pz_takes (takes_of rfl rfl rfl rfl)) (z_var 0 (pv 0)) (za_cons (z_tup (za_cons (z_str [101, 110, 100] (by decide +kernel)) za_nil)) za_nil)) za_nil))) (zs_cons (zs_put (hu_of hr) (z_fld CT "heap" rfl rfl (z_var 0 (pv 0))) (z_var 5 (pv 5)) (z_tup (za_cons (z_str [98, 111, 116, 104] (by decide +kernel)) (za_cons (z_bin op_addZ (so_add rfl) (z_var 5 (pv 5)) z_int) (za_cons (z_blt call_lenZ (so_len rfl) (by rfl) m_len (by decide +kernel) (za_cons (z_fld CT "heap" rfl rfl (z_var 0 (pv 0))) za_nil)) za_nil)))) (pg_sub (z_fld CT "heap" rfl rfl (z_var 0 (pv 0))) (z_var 5 (pv 5)) (set_Z (hu_of hr)))) (zs_one (zs_if (zt_cmp (op_eqP hr.units) (so_eq rfl) (z_var 3 (pv 3)) (z_bin op_sub so_sub (z_blt call_lenZ (so_len rfl) (by rfl) m_len (by decide +kernel) (za_cons (z_var 1 (pv 1)) za_nil)) z_int) (nomark _)) (zs_one (zs_put (hu_of hr) (z_fld CT "heap" rfl rfl (z_var 0 (pv 0))) (z_var 5 (pv 5)) (z_tup (za_cons (z_str [103, 111] (by decide +kernel)) (za_cons (z_bin op_addZ (so_add rfl) (z_var 5 (pv 5)) z_int) za_nil))) (pg_sub (z_fld CT "heap" rfl rfl (z_var 0 (pv 0))) (z_var 5 (pv 5)) (set_Z (hu_of hr))))) zs_nil)))))))) (zs_one (zs_forW (passes_of rfl) rfl (zi_seqW rfl (z_var 2 (pv 2))) (pg_name (i := 5) sc_Laying_lay_pick.nd rfl (Or.inl rfl)) (zg_name 5) (zs_one (zs_put (hu_of hr) (z_fld CT "heap" rfl rfl (z_var 0 (pv 0))) (z_var 5 (pv 5)) (z_tup (za_cons (z_str [103, 111] (by decide +kernel)) (za_cons (z_blt call_lenZ (so_len rfl) (by rfl) m_len (by decide +kernel) (za_cons (z_fld CT "heap" rfl rfl (z_var 0 (pv 0))) za_nil)) za_nil))) (pg_sub (z_fld CT "heap" rfl rfl (z_var 0 (pv 0))) (z_var 5 (pv 5)) (set_Z (hu_of hr)))))))))

theorem sc_Laying_lay_many : FnScope ["self", "kind", "door", "first", "again", "behind"] ["self", "kind"] S_Laying_lay_many := ⟨rfl, rfl, rfl, by decide +kernel, rfl, by decide +kernel, by decide +kernel⟩
theorem ok_Laying_lay_many {k : Nat} {T : Nat → Fn} {f : Addr} {fd : FuncData} (Fu : Fun G.K "lay_many" "Laying.lay_many" st_Laying_lay_many f fd) (ms_lay : MsOk P w G mg base k "lay" [("Laying", f_Laying_lay, [])]) (ms_lay_kind : MsOk P w G mg base k "lay_kind" [("Laying", (T 0), [])]) (CT : CtOk G ct) (ms_lay_signs : MsOk P w G mg base k "lay_signs" [("Laying", f_Laying_lay_signs, [])]) : FnOk P w G.K mg base (L2.CX P w) (k + 1) f fd ["self", "kind"] (spF G (b_Laying_lay_many T)) :=
  ok_defS (k := k) hS_Laying_lay_many Fu sc_Laying_lay_many fun cdv A outer s H E hr =>
    (zs_cons (zs_set (i := 2) (pg_name (i := 2) sc_Laying_lay_many.nd rfl (Or.inl rfl)) (z_meth "lay" rfl ms_lay rfl hr (pz_takes (takes_of rfl rfl rfl rfl)) (z_var 0 (pv 0)) (za_cons (z_tup (za_cons (z_str [101, 110, 100] (by decide +kernel)) za_nil)) za_nil))) (zs_cons (zs_set (i := 3) (pg_name (i := 3) sc_Laying_lay_many.nd rfl (Or.inl rfl)) (z_meth "lay" rfl ms_lay rfl hr (pz_takes (takes_of rfl rfl rfl rfl)) (z_var 0 (pv 0)) (za_cons (z_tup (za_cons (z_str [109, 97, 114, 107] (by decide +kernel)) (za_cons (z_str [116, 104, 105, 110, 103] (by decide +kernel)) (za_cons z_int za_nil)))) za_nil))) (zs_cons (zs_ex (z_meth "lay_kind" rfl ms_lay_kind rfl hr (pz_takes (takes_of rfl rfl rfl rfl)) (z_var 0 (pv 0)) (za_cons (z_fld CT "part" rfl rfl (z_var 1 (pv 1))) za_nil))) (zs_cons (zs_set (i := 4) (pg_name (i := 4) sc_Laying_lay_many.nd rfl (Or.inl rfl)) (z_meth "lay" rfl ms_lay rfl hr (pz_takes (takes_of rfl rfl rfl rfl)) (z_var 0 (pv 0)) (za_cons (z_tup (za_cons (z_str [101, 110, 100] (by decide +kernel)) za_nil)) za_nil))) (zs_cons (zs_ex (z_meth "lay_signs" rfl ms_lay_signs rfl hr (pz_takes (takes_of rfl rfl rfl rfl)) (z_var 0 (pv 0)) (za_cons (z_fld CT "between" rfl rfl (z_var 1 (pv 1))) za_nil))) (zs_cons (zs_ex (z_meth "lay" rfl ms_lay rfl hr (pz_takes (takes_of rfl rfl rfl rfl)) (z_var 0 (pv 0)) (za_cons (z_tup (za_cons (z_str [103, 111] (by decide +kernel)) (za_cons (z_var 3 (pv 3)) za_nil))) za_nil))) (zs_cons (zs_set (i := 5) (pg_name (i := 5) sc_Laying_lay_many.nd rfl (Or.inl rfl)) (z_meth "lay" rfl ms_lay rfl hr (pz_takes (takes_of rfl rfl rfl rfl)) (z_var 0 (pv 0)) (za_cons (z_tup (za_cons (z_str [109, 97, 114, 107] (by decide +kernel)) (za_cons (z_str [111, 118, 101, 114] (by decide +kernel)) (za_cons z_int za_nil)))) za_nil))) (zs_cons (zs_put (hu_of hr) (z_fld CT "heap" rfl rfl (z_var 0 (pv 0))) (z_var 2 (pv 2)) (z_tup (za_cons (z_str [98, 111, 116, 104] (by decide +kernel)) (za_cons (z_var 3 (pv 3)) (za_cons (z_var 5 (pv 5)) za_nil)))) (pg_sub (z_fld CT "heap" rfl rfl (z_var 0 (pv 0))) (z_var 2 (pv 2)) (set_Z (hu_of hr)))) (zs_one (zs_put (hu_of hr) (z_fld CT "heap" rfl rfl (z_var 0 (pv 0))) (z_var 4 (pv 4)) (z_tup (za_cons (z_str [98, 111, 116, 104] (by decide +kernel)) (za_cons (z_bin op_addZ (so_add rfl) (z_var 4 (pv 4)) z_int) (za_cons (z_var 5 (pv 5)) za_nil)))) (pg_sub (z_fld CT "heap" rfl rfl (z_var 0 (pv 0))) (z_var 4 (pv 4)) (set_Z (hu_of hr)))))))))))))

theorem sc_rows_of : FnScope ["kind", "laying"] ["kind"] S_rows_of := ⟨rfl, rfl, rfl, by decide +kernel, rfl, by decide +kernel, by decide +kernel⟩
theorem ok_rows_of {k : Nat} {f : Addr} {fd : FuncData} (Fu : Fun G.K "rows_of" "rows_of" st_rows_of f fd) (k_Laying : KGn P w G mg base "Laying" "Laying" k f_Laying_init []) (ms_lay_kind : MsOk P w G mg base k "lay_kind" [("Laying", f_Laying_lay_kind, [])]) (ms_lay : MsOk P w G mg base k "lay" [("Laying", f_Laying_lay, [])]) (CT : CtOk G ct) : FnOk P w G.K mg base (L2.CX P w) (k + 1) f fd ["kind"] (spF G f_rows_of) :=
  ok_defS (k := k) hS_rows_of Fu sc_rows_of fun cdv A outer s H E hr =>
    (zs_cons (zs_set (i := 1) (pg_name (i := 1) sc_rows_of.nd rfl (Or.inl rfl)) (z_mk0 k_Laying rfl hr (pz_takes (takes_of rfl rfl rfl rfl)) (by rfl))) (zs_cons (zs_ex (z_meth "lay_kind" rfl ms_lay_kind rfl hr (pz_takes (takes_of rfl rfl rfl rfl)) (z_var 1 (pv 1)) (za_cons (z_var 0 (pv 0)) za_nil))) (zs_cons (zs_ex (z_meth "lay" rfl ms_lay rfl hr (pz_takes (takes_of rfl rfl rfl rfl)) (z_var 1 (pv 1)) (za_cons (z_tup (za_cons (z_str [101, 110, 100] (by decide +kernel)) za_nil)) za_nil))) (zs_one (zs_ret (z_fld CT "heap" rfl rfl (z_var 1 (pv 1))))))))

theorem sc_L_pool : FnScope ["_law_script", "_law_at", "_law_every", "_law_first", "_law_step", "_law_k"] ["_law_script", "_law_at"] S_L_pool := ⟨rfl, rfl, rfl, by decide +kernel, rfl, by decide +kernel, by decide +kernel⟩
theorem ok_L_pool {k : Nat} {f : Addr} {fd : FuncData} (Fu : Fun G.K "_law_pool" "_law_pool" st_L_pool f fd) (m_range : mg "range" = none) (g_L_draw : GFn P w G mg base "_law_draw" k f_L_draw []) : FnOk P w G.K mg base (L2.CX P w) (k + 1) f fd ["_law_script", "_law_at"] (spF G f_L_pool) :=
  ok_defS (k := k) hS_L_pool Fu sc_L_pool fun cdv A outer s H E hr =>
    (zs_cons (zs_set (i := 2) (pg_name (i := 2) sc_L_pool.nd rfl (Or.inr rfl)) (z_str [32, 33, 34, 35, 36, 38, 39, 40, 41, 42, 43, 44, 45, 46, 47, 48, 49, 50, 51, 52, 53, 54, 55, 56, 57, 58, 59, 60, 61, 62, 63, 64, 65, 66, 67, 68, 69, 70, 71, 72, 73, 74, 75, 76, 77, 78, 79, 80, 81, 82, 83, 84, 85, 86, 87, 88, 89, 90, 91, 92, 93, 94, 95, 96, 97, 98, 99, 100, 101, 102, 103, 104, 105, 106, 107, 108, 109, 110, 111, 112, 113, 114, 115, 116, 117, 118, 119, 120, 121, 122, 123, 124, 125, 126, 10] (by decide +kernel))) (zs_cons (zs_set (i := 3) (pg_name (i := 3) sc_L_pool.nd rfl (Or.inr rfl)) (z_g g_L_draw rfl hr (pz_takes (takes_of rfl rfl rfl rfl)) (by rfl) (za_cons (z_var 0 (pv 0)) (za_cons (z_var 1 (pv 1)) (za_cons z_int za_nil))))) (zs_cons (zs_set (i := 4) (pg_name (i := 4) sc_L_pool.nd rfl (Or.inr rfl)) (z_ix rfl (hu_of hr) (z_lst (za_cons z_int (za_cons z_int (za_cons z_int (za_cons z_int (za_cons z_int (za_cons z_int (za_cons z_int (za_cons z_int za_nil))))))))) (z_g g_L_draw rfl hr (pz_takes (takes_of rfl rfl rfl rfl)) (by rfl) (za_cons (z_var 0 (pv 0)) (za_cons (z_var 1 (pv 1)) (za_cons z_int za_nil)))) (fun _ _ => rfl))) (zs_one (zs_ret (z_lstC (za_cons (z_bm rfl PySem.F.plainAttrs_str PySem.F.slot_str_join PySem.F.type_str_join mt_join (so_join rfl) (z_str [] (by decide +kernel)) (za_cons (z_frz (z_lcW rfl sc_L_pool.nd (zi_wk (zi_rng1 (by rfl) m_range (za_cons z_int za_nil))) (blkOk_by (own := [("_law_k", 5)]) (N := ["_law_script", "_law_at", "_law_every", "_law_first", "_law_step", "_law_k"]) (sc := S_L_pool) (by decide +kernel)) rfl (zg_name 5) (by decide) (fun _ _ _ _ _ => (pg_name (i := 5) sc_L_pool.nd rfl (Or.inl rfl))) (fun _ _ _ _ _ => zts_nil) (fun _ _ _ _ _ => (z_ix rfl (hu_of hr) (z_var 2 (pv 2)) (z_bin op_mod so_mod (z_bin op_addZ (so_add rfl) (z_var 3 (pv 3)) (z_bin op_mul so_mulI (z_var 4 (pv 4)) (z_var 5 (pv 5)))) z_int) (fun _ _ => rfl))))) za_nil)) za_nil)))))))

theorem sc_L_is_number : FnScope ["_law_thing", "_law_many"] ["_law_thing", "_law_many"] S_L_is_number := ⟨rfl, rfl, rfl, by decide +kernel, rfl, by decide +kernel, by decide +kernel⟩
theorem ok_L_is_number {k : Nat} {f : Addr} {fd : FuncData} (Fu : Fun G.K "_law_is_number" "_law_is_number" st_L_is_number f fd) (m_bool : mg "bool" = none) (m_int : mg "int" = none) (m_isinstance : mg "isinstance" = none) (i_int : IsiG G mg "int" (.ty "int") (.type "int") is_int) (i_bool : IsiG G mg "bool" (.ty "bool") (.type "bool") is_bool) : FnOk P w G.K mg base (L2.CX P w) (k + 1) f fd ["_law_thing", "_law_many"] (spF G f_L_is_number) :=
  ok_defS (k := k) hS_L_is_number Fu sc_L_is_number fun cdv A outer s H E hr =>
    (zs_one (zs_ret (z_and (z_isiZ rfl i_int.cl i_int.ok (by rfl) m_isinstance (z_var 0 (pv 0)) (pe_bltn (v := .ty "int") (by rfl) m_int (by decide +kernel) rfl)) (z_and (z_not (z_isiZ rfl i_bool.cl i_bool.ok (by rfl) m_isinstance (z_var 0 (pv 0)) (pe_bltn (v := .ty "bool") (by rfl) m_bool (by decide +kernel) rfl))) (z_one (z_ch op_leZ so_le op_ltZ so_lt z_int (z_var 0 (pv 0)) (z_var 1 (pv 1))))))))

theorem sc_L_is_row : FnScope ["_law_row", "_law_many"] ["_law_row", "_law_many"] S_L_is_row := ⟨rfl, rfl, rfl, by decide +kernel, rfl, by decide +kernel, by decide +kernel⟩
theorem ok_L_is_row {k : Nat} {f : Addr} {fd : FuncData} (Fu : Fun G.K "_law_is_row" "_law_is_row" st_L_is_row f fd) (m_isinstance : mg "isinstance" = none) (m_len : mg "len" = none) (m_str : mg "str" = none) (m_tuple : mg "tuple" = none) (i_tuple : IsiG G mg "tuple" (.ty "tuple") (.type "tuple") is_tuple) (i_str : IsiG G mg "str" (.ty "str") (.type "str") is_str) (g_L_is_number : GFn P w G mg base "_law_is_number" k f_L_is_number []) : FnOk P w G.K mg base (L2.CX P w) (k + 1) f fd ["_law_row", "_law_many"] (spF G f_L_is_row) :=
  ok_defS (k := k) hS_L_is_row Fu sc_L_is_row fun cdv A outer s H E hr =>
    (zs_cons (zs_if (PW.pt (zw_or (zt_not (zt_val (z_isiZ rfl i_tuple.cl i_tuple.ok (by rfl) m_isinstance (z_var 0 (pv 0)) (pe_bltn (v := .ty "tuple") (by rfl) m_tuple (by decide +kernel) rfl)))) (zw_or (zt_cmp (op_eqP hr.units) (so_eq rfl) (z_var 0 (pv 0)) (z_tup za_nil) (nomark _)) (zw_or1 (zt_not (zt_val (z_isiZ rfl i_str.cl i_str.ok (by rfl) m_isinstance (z_ix rfl (hu_of hr) (z_var 0 (pv 0)) z_int (fun _ _ => rfl)) (pe_bltn (v := .ty "str") (by rfl) m_str (by decide +kernel) rfl)))))))) (zs_one (zs_ret z_bl)) zs_nil) (zs_cons (zs_if (zt_cmp (op_eqP hr.units) (so_eq rfl) (z_ix rfl (hu_of hr) (z_var 0 (pv 0)) z_int (fun _ _ => rfl)) (z_str [115, 105, 103, 110] (by decide +kernel)) (nomark _)) (zs_one (zs_ret (z_and (z_cmp (op_eqP hr.units) (so_eq rfl) (z_blt call_lenZ (so_len rfl) (by rfl) m_len (by decide +kernel) (za_cons (z_var 0 (pv 0)) za_nil)) z_int (nomark _)) (z_one (z_isiZ rfl i_str.cl i_str.ok (by rfl) m_isinstance (z_ix rfl (hu_of hr) (z_var 0 (pv 0)) z_int (fun _ _ => rfl)) (pe_bltn (v := .ty "str") (by rfl) m_str (by decide +kernel) rfl)))))) zs_nil) (zs_cons (zs_if (zt_cmp (op_eqP hr.units) (so_eq rfl) (z_ix rfl (hu_of hr) (z_var 0 (pv 0)) z_int (fun _ _ => rfl)) (z_str [103, 111] (by decide +kernel)) (nomark _)) (zs_one (zs_ret (z_and (z_cmp (op_eqP hr.units) (so_eq rfl) (z_blt call_lenZ (so_len rfl) (by rfl) m_len (by decide +kernel) (za_cons (z_var 0 (pv 0)) za_nil)) z_int (nomark _)) (z_one (z_g g_L_is_number rfl hr (pz_takes (takes_of rfl rfl rfl rfl)) (by rfl) (za_cons (z_ix rfl (hu_of hr) (z_var 0 (pv 0)) z_int (fun _ _ => rfl)) (za_cons (z_var 1 (pv 1)) za_nil))))))) zs_nil) (zs_cons (zs_if (zt_cmp (op_eqP hr.units) (so_eq rfl) (z_ix rfl (hu_of hr) (z_var 0 (pv 0)) z_int (fun _ _ => rfl)) (z_str [98, 111, 116, 104] (by decide +kernel)) (nomark _)) (zs_one (zs_ret (z_and (z_cmp (op_eqP hr.units) (so_eq rfl) (z_blt call_lenZ (so_len rfl) (by rfl) m_len (by decide +kernel) (za_cons (z_var 0 (pv 0)) za_nil)) z_int (nomark _)) (z_and (z_g g_L_is_number rfl hr (pz_takes (takes_of rfl rfl rfl rfl)) (by rfl) (za_cons (z_ix rfl (hu_of hr) (z_var 0 (pv 0)) z_int (fun _ _ => rfl)) (za_cons (z_var 1 (pv 1)) za_nil))) (z_one (z_g g_L_is_number rfl hr (pz_takes (takes_of rfl rfl rfl rfl)) (by rfl) (za_cons (z_ix rfl (hu_of hr) (z_var 0 (pv 0)) z_int (fun _ _ => rfl)) (za_cons (z_var 1 (pv 1)) za_nil)))))))) zs_nil) (zs_cons (zs_if (zt_cmp (op_eqP hr.units) (so_eq rfl) (z_ix rfl (hu_of hr) (z_var 0 (pv 0)) z_int (fun _ _ => rfl)) (z_str [109, 97, 114, 107] (by decide +kernel)) (nomark _)) (zs_one (zs_ret (z_cmp (op_eqP hr.units) (so_eq rfl) (z_blt call_lenZ (so_len rfl) (by rfl) m_len (by decide +kernel) (za_cons (z_var 0 (pv 0)) za_nil)) z_int (nomark _)))) zs_nil) (zs_one (zs_ret (z_cmp (op_eqP hr.units) (so_eq rfl) (z_var 0 (pv 0)) (z_tup (za_cons (z_str [101, 110, 100] (by decide +kernel)) za_nil)) (nomark _)))))))))

theorem sc_law : FnScope ["_law_script", "_law_at", "_law_turn", "_law_kind", "_law_real_here", "_law_ahead", "_law_rows", "_law_row", "_law_kept"] ["_law_script"] S_law := ⟨rfl, rfl, rfl, by decide +kernel, rfl, by decide +kernel, by decide +kernel⟩
theorem ok_law {k : Nat} {f : Addr} {fd : FuncData} (Fu : Fun G.K "law" "law" st_law f fd) (m_all : mg "all" = none) (m_isinstance : mg "isinstance" = none) (m_len : mg "len" = none) (m_list : mg "list" = none) (m_range : mg "range" = none) (g_L_clear : GFn P w G mg base "_law_clear" k f_L_clear []) (g_L_draw : GFn P w G mg base "_law_draw" k f_L_draw []) (g_L_pool : GFn P w G mg base "_law_pool" k f_L_pool []) (g_L_real : GFn P w G mg base "_law_real" k f_L_real []) (ms_written : MsOk P w G mg base k "written" [("Kind", f_Kind_written, []), ("Word", f_Word_written, []), ("Run", f_Run_written, []), ("Row", f_Row_written, []), ("Pick", f_Pick_written, []), ("Many", f_Many_written, [])]) (g_rows_of : GFn P w G mg base "rows_of" k f_rows_of []) (i_list : IsiG G mg "list" (.ty "list") (.type "list") is_list) (g_L_is_row : GFn P w G mg base "_law_is_row" k f_L_is_row []) : FnOk P w G.K mg base (L2.CX P w) (k + 1) f fd ["_law_script"] (spF G f_law) :=
  ok_defS (k := k) hS_law Fu sc_law fun cdv A outer s H E hr =>
    (zs_cons (zs_set (i := 1) (pg_name (i := 1) sc_law.nd rfl (Or.inl rfl)) (z_lstC (za_cons z_int za_nil))) (zs_cons (zs_forW (passes_of rfl) rfl (zi_wk (zi_rng1 (by rfl) m_range (za_cons z_int za_nil))) (pg_name (i := 2) sc_law.nd rfl (Or.inl rfl)) (zg_name 2) (zs_cons (zs_set (i := 3) (pg_name (i := 3) sc_law.nd rfl (Or.inl rfl)) (z_g g_L_clear rfl hr (pz_takes (takes_of rfl rfl rfl rfl)) (by rfl) (za_cons (z_var 0 (pv 0)) (za_cons (z_var 1 (pv 1)) (za_cons (z_g g_L_pool rfl hr (pz_takes (takes_of rfl rfl rfl rfl)) (by rfl) (za_cons (z_var 0 (pv 0)) (za_cons (z_var 1 (pv 1)) za_nil))) (za_cons z_int (za_cons (z_lstC (za_cons (z_bin op_addZ (so_add rfl) z_int (z_g g_L_draw rfl hr (pz_takes (takes_of rfl rfl rfl rfl)) (by rfl) (za_cons (z_var 0 (pv 0)) (za_cons (z_var 1 (pv 1)) (za_cons z_int za_nil))))) za_nil)) za_nil))))))) (zs_cons (zs_set (i := 4) (pg_name (i := 4) sc_law.nd rfl (Or.inl rfl)) (z_g g_L_real rfl hr (pz_takes (takes_of rfl rfl rfl rfl)) (by rfl) (za_cons (z_var 3 (pv 3)) za_nil))) (zs_cons (zs_set (i := 5) (pg_name (i := 5) sc_law.nd rfl (Or.inl rfl)) (z_meth0 "written" rfl ms_written rfl hr (pz_takes (takes_of rfl rfl rfl rfl)) (z_var 4 (pv 4)))) (zs_cons (zs_set (i := 6) (pg_name (i := 6) sc_law.nd rfl (Or.inr rfl)) (z_g g_rows_of rfl hr (pz_takes (takes_of rfl rfl rfl rfl)) (by rfl) (za_cons (z_var 4 (pv 4)) za_nil))) (zs_cons (zs_if (PW.pt (zw_or (zt_not (zt_val (z_isiZ rfl i_list.cl i_list.ok (by rfl) m_isinstance (z_var 6 (pv 6)) (pe_bltn (v := .ty "list") (by rfl) m_list (by decide +kernel) rfl)))) (zw_or1 (zt_not (zt_ch op_leZ so_le op_leZ so_le z_int (z_blt call_lenZ (so_len rfl) (by rfl) m_len (by decide +kernel) (za_cons (z_var 6 (pv 6)) za_nil)) z_int))))) (zs_one (zs_ret z_bl)) zs_nil) (zs_cons (zs_if (zt_not (zt_val (z_blt (cr_all rfl) (so_all rfl) (by rfl) m_all (by decide +kernel) (za_cons (z_frz (z_lcW rfl sc_law.nd (zi_seqW rfl (z_var 6 (pv 6))) (blkOk_by (own := [("_law_row", 7)]) (N := ["_law_script", "_law_at", "_law_turn", "_law_kind", "_law_real_here", "_law_ahead", "_law_rows", "_law_row", "_law_kept"]) (sc := S_law) (by decide +kernel)) rfl (zg_name 7) (by decide) (fun _ _ _ _ _ => (pg_name (i := 7) sc_law.nd rfl (Or.inl rfl))) (fun _ _ _ _ _ => zts_nil) (fun _ _ _ _ _ => (z_g g_L_is_row rfl hr pz_never (by rfl) (za_cons (z_var 7 (pv 7)) (za_cons (z_blt call_lenZ (so_len rfl) (by rfl) m_len (by decide +kernel) (za_cons (z_var 6 (pv 6)) za_nil)) za_nil)))))) za_nil)))) (zs_one (zs_ret z_bl)) zs_nil) (zs_cons (zs_set (i := 8) (pg_name (i := 8) sc_law.nd rfl (Or.inl rfl)) (z_bty call_list_of (so_list rfl) (by rfl) m_list (by decide +kernel) (za_cons (z_var 6 (pv 6)) za_nil))) (zs_cons (zs_ex (z_bm rfl PySem.F.plainAttrs_list PySem.F.slot_list_append PySem.F.type_list_append mt_append so_app (z_var 6 (pv 6)) (za_cons (z_tup (za_cons (z_str [101, 110, 100] (by decide +kernel)) za_nil)) za_nil))) (zs_one (zs_if (PW.pt (zw_or (zt_cmp (op_neP hr.units) (so_ne rfl) (z_g g_rows_of rfl hr (pz_takes (takes_of rfl rfl rfl rfl)) (by rfl) (za_cons (z_var 4 (pv 4)) za_nil)) (z_var 8 (pv 8)) (nomark _)) (zw_or1 (zt_cmp (op_neP hr.units) (so_ne rfl) (z_meth0 "written" rfl ms_written rfl hr (pz_takes (takes_of rfl rfl rfl rfl)) (z_var 4 (pv 4))) (z_var 5 (pv 5)) (nomark _))))) (zs_one (zs_ret z_bl)) zs_nil))))))))))) (zs_one (zs_ret z_bl))))
end
end Y
namespace Y
open PySem PySem.Spec PyProof.Rows L2 Z
theorem all_mk {l : PySem.W.OpenLaw} {w : World} {K : PySem.W.Frag} {h : Heap} {mg : Str → Option Value} {fa p0 p1 p2 p3 p4 p5 p6 p7 p8 p9 p10 p11 p12 p13 p14 p15 p16 p17 p18 p19 p20 p21 p22 p23 p24 p25 p26 p27 p28 p29 p30 p31 p32 p33 p34 p35 q0 q1 q2 q3 q4 q5 q6 : Addr} (X : K.In h) (N : h.Ns mainGlobals mg) (hfa : mg "law" = some (.ref fa))
    {od0 an0 : Option Addr} {sl0 : Array (Option Value)} {oc0 kV0 dc0 pm0 cd0 ct0 : Value} {od1 an1 : Option Addr} {sl1 : Array (Option Value)} {oc1 kV1 dc1 pm1 cd1 ct1 : Value} {od2 an2 : Option Addr} {sl2 : Array (Option Value)} {oc2 kV2 dc2 pm2 cd2 ct2 : Value} {od3 an3 : Option Addr} {sl3 : Array (Option Value)} {oc3 kV3 dc3 pm3 cd3 ct3 : Value} {od4 an4 : Option Addr} {sl4 : Array (Option Value)} {oc4 kV4 dc4 pm4 cd4 ct4 : Value} {od5 an5 : Option Addr} {sl5 : Array (Option Value)} {oc5 kV5 dc5 pm5 cd5 ct5 : Value} {od6 an6 : Option Addr} {sl6 : Array (Option Value)} {oc6 kV6 dc6 pm6 cd6 ct6 : Value} {t6a : Addr} {t6c : Value} {t6d : Option Addr} {t6i : Array Value} {t6n : Nat} {t6s : Array (Option Value)} {od7 an7 : Option Addr} {sl7 : Array (Option Value)} {oc7 kV7 dc7 pm7 cd7 ct7 : Value} {od8 an8 : Option Addr} {sl8 : Array (Option Value)} {oc8 kV8 dc8 pm8 cd8 ct8 : Value} {od9 an9 : Option Addr} {sl9 : Array (Option Value)} {oc9 kV9 dc9 pm9 cd9 ct9 : Value} {t9a : Addr} {t9c : Value} {t9d : Option Addr} {t9i : Array Value} {t9n : Nat} {t9s : Array (Option Value)} {od10 an10 : Option Addr} {sl10 : Array (Option Value)} {oc10 kV10 dc10 pm10 cd10 ct10 : Value} {od11 an11 : Option Addr} {sl11 : Array (Option Value)} {oc11 kV11 dc11 pm11 cd11 ct11 : Value} {od12 an12 : Option Addr} {sl12 : Array (Option Value)} {oc12 kV12 dc12 pm12 cd12 ct12 : Value} {od13 an13 : Option Addr} {sl13 : Array (Option Value)} {oc13 kV13 dc13 pm13 cd13 ct13 : Value} {od14 an14 : Option Addr} {sl14 : Array (Option Value)} {oc14 kV14 dc14 pm14 cd14 ct14 : Value} {od15 an15 : Option Addr} {sl15 : Array (Option Value)} {oc15 kV15 dc15 pm15 cd15 ct15 : Value} {od16 an16 : Option Addr} {sl16 : Array (Option Value)} {oc16 kV16 dc16 pm16 cd16 ct16 : Value} {od17 an17 : Option Addr} {sl17 : Array (Option Value)} {oc17 kV17 dc17 pm17 cd17 ct17 : Value} {od18 an18 : Option Addr} {sl18 : Array (Option Value)} {oc18 kV18 dc18 pm18 cd18 ct18 : Value} {od19 an19 : Option Addr} {sl19 : Array (Option Value)} {oc19 kV19 dc19 pm19 cd19 ct19 : Value} {od20 an20 : Option Addr} {sl20 : Array (Option Value)} {oc20 kV20 dc20 pm20 cd20 ct20 : Value} {od21 an21 : Option Addr} {sl21 : Array (Option Value)} {oc21 kV21 dc21 pm21 cd21 ct21 : Value} {od22 an22 : Option Addr} {sl22 : Array (Option Value)} {oc22 kV22 dc22 pm22 cd22 ct22 : Value} {od23 an23 : Option Addr} {sl23 : Array (Option Value)} {oc23 kV23 dc23 pm23 cd23 ct23 : Value} {od24 an24 : Option Addr} {sl24 : Array (Option Value)} {oc24 kV24 dc24 pm24 cd24 ct24 : Value} {od25 an25 : Option Addr} {sl25 : Array (Option Value)} {oc25 kV25 dc25 pm25 cd25 ct25 : Value} {od26 an26 : Option Addr} {sl26 : Array (Option Value)} {oc26 kV26 dc26 pm26 cd26 ct26 : Value} {od27 an27 : Option Addr} {sl27 : Array (Option Value)} {oc27 kV27 dc27 pm27 cd27 ct27 : Value} {od28 an28 : Option Addr} {sl28 : Array (Option Value)} {oc28 kV28 dc28 pm28 cd28 ct28 : Value} {od29 an29 : Option Addr} {sl29 : Array (Option Value)} {oc29 kV29 dc29 pm29 cd29 ct29 : Value} {od30 an30 : Option Addr} {sl30 : Array (Option Value)} {oc30 kV30 dc30 pm30 cd30 ct30 : Value} {od31 an31 : Option Addr} {sl31 : Array (Option Value)} {oc31 kV31 dc31 pm31 cd31 ct31 : Value} {od32 an32 : Option Addr} {sl32 : Array (Option Value)} {oc32 kV32 dc32 pm32 cd32 ct32 : Value} {od33 an33 : Option Addr} {sl33 : Array (Option Value)} {oc33 kV33 dc33 pm33 cd33 ct33 : Value} {od34 an34 : Option Addr} {sl34 : Array (Option Value)} {oc34 kV34 dc34 pm34 cd34 ct34 : Value} {od35 an35 : Option Addr} {sl35 : Array (Option Value)} {oc35 kV35 dc35 pm35 cd35 ct35 : Value}
    (A0 : PySem.W.nsIn K mainGlobals "Kind" = some (some (.ref q0)))
    (A1 : PySem.W.nsIn K mainGlobals "Word" = some (some (.ref q1)))
    (A2 : PySem.W.nsIn K mainGlobals "Run" = some (some (.ref q2)))
    (A3 : PySem.W.nsIn K mainGlobals "Row" = some (some (.ref q3)))
    (A4 : PySem.W.nsIn K mainGlobals "Pick" = some (some (.ref q4)))
    (A5 : PySem.W.nsIn K mainGlobals "Many" = some (some (.ref q5)))
    (A6 : PySem.W.nsIn K mainGlobals "Laying" = some (some (.ref q6)))
    (a0 : PySem.W.nsIn K mainGlobals "_law_draw" = some (some (.ref p0)))
    (l0 : K.lookup p0 = some ⟨oc0, od0, .func (PySem.W.fnOf "_law_draw" "_law_draw" (defArgs st_L_draw) (defBody st_L_draw) (defScope st_L_draw) .none kV0 dc0 pm0 an0 cd0 ct0), sl0⟩)
    (c0 : PySem.W.codeIn K cd0 "_law_draw" = true)
    (k0 : PySem.W.keepIn K (.ref p0) = true)
    (a1 : PySem.W.nsIn K mainGlobals "_law_taken" = some (some (.ref p1)))
    (l1 : K.lookup p1 = some ⟨oc1, od1, .func (PySem.W.fnOf "_law_taken" "_law_taken" (defArgs st_L_taken) (defBody st_L_taken) (defScope st_L_taken) .none kV1 dc1 pm1 an1 cd1 ct1), sl1⟩)
    (c1 : PySem.W.codeIn K cd1 "_law_taken" = true)
    (k1 : PySem.W.keepIn K (.ref p1) = true)
    (a2 : PySem.W.nsIn K mainGlobals "_law_tangled" = some (some (.ref p2)))
    (l2 : K.lookup p2 = some ⟨oc2, od2, .func (PySem.W.fnOf "_law_tangled" "_law_tangled" (defArgs st_L_tangled) (defBody st_L_tangled) (defScope st_L_tangled) .none kV2 dc2 pm2 an2 cd2 ct2), sl2⟩)
    (c2 : PySem.W.codeIn K cd2 "_law_tangled" = true)
    (k2 : PySem.W.keepIn K (.ref p2) = true)
    (a3 : PySem.W.nsIn K mainGlobals "_law_leaf" = some (some (.ref p3)))
    (l3 : K.lookup p3 = some ⟨oc3, od3, .func (PySem.W.fnOf "_law_leaf" "_law_leaf" (defArgs st_L_leaf) (defBody st_L_leaf) (defScope st_L_leaf) .none kV3 dc3 pm3 an3 cd3 ct3), sl3⟩)
    (c3 : PySem.W.codeIn K cd3 "_law_leaf" = true)
    (k3 : PySem.W.keepIn K (.ref p3) = true)
    (a4 : PySem.W.nsIn K mainGlobals "_law_opened" = some (some (.ref p4)))
    (l4 : K.lookup p4 = some ⟨oc4, od4, .func (PySem.W.fnOf "_law_opened" "_law_opened" (defArgs st_L_opened) (defBody st_L_opened) (defScope st_L_opened) .none kV4 dc4 pm4 an4 cd4 ct4), sl4⟩)
    (c4 : PySem.W.codeIn K cd4 "_law_opened" = true)
    (k4 : PySem.W.keepIn K (.ref p4) = true)
    (a5 : PySem.W.nsIn K mainGlobals "_law_clear" = some (some (.ref p5)))
    (l5 : K.lookup p5 = some ⟨oc5, od5, .func (PySem.W.fnOf "_law_clear" "_law_clear" (defArgs st_L_clear) (defBody st_L_clear) (defScope st_L_clear) .none kV5 dc5 pm5 an5 cd5 ct5), sl5⟩)
    (c5 : PySem.W.codeIn K cd5 "_law_clear" = true)
    (k5 : PySem.W.keepIn K (.ref p5) = true)
    (a6 : PySem.W.findIn K (.ref q5) "__init__" = some (some (.ref p6)))
    (l6 : K.lookup p6 = some ⟨oc6, od6, .func (PySem.W.fnOf "__init__" "Many.__init__" (defArgs st_Many_init) (defBody st_Many_init) (defScope st_Many_init) (.ref t6a) kV6 dc6 pm6 an6 cd6 ct6), sl6⟩)
    (t6 : K.lookup t6a = some ⟨t6c, t6d, .seq t6i t6n, t6s⟩)
    (v6 : Vals [.str ""] t6i.toList)
    (c6 : PySem.W.codeIn K cd6 "Many.__init__" = true)
    (k6 : PySem.W.keepIn K (.ref p6) = true)
    (f6 : PySem.W.isFn K (.ref p6) = true)
    (a7 : PySem.W.findIn K (.ref q1) "__init__" = some (some (.ref p7)))
    (l7 : K.lookup p7 = some ⟨oc7, od7, .func (PySem.W.fnOf "__init__" "Word.__init__" (defArgs st_Word_init) (defBody st_Word_init) (defScope st_Word_init) .none kV7 dc7 pm7 an7 cd7 ct7), sl7⟩)
    (c7 : PySem.W.codeIn K cd7 "Word.__init__" = true)
    (k7 : PySem.W.keepIn K (.ref p7) = true)
    (f7 : PySem.W.isFn K (.ref p7) = true)
    (a8 : PySem.W.findIn K (.ref q2) "__init__" = some (some (.ref p8)))
    (l8 : K.lookup p8 = some ⟨oc8, od8, .func (PySem.W.fnOf "__init__" "Run.__init__" (defArgs st_Run_init) (defBody st_Run_init) (defScope st_Run_init) .none kV8 dc8 pm8 an8 cd8 ct8), sl8⟩)
    (c8 : PySem.W.codeIn K cd8 "Run.__init__" = true)
    (k8 : PySem.W.keepIn K (.ref p8) = true)
    (f8 : PySem.W.isFn K (.ref p8) = true)
    (a9 : PySem.W.findIn K (.ref q3) "__init__" = some (some (.ref p9)))
    (l9 : K.lookup p9 = some ⟨oc9, od9, .func (PySem.W.fnOf "__init__" "Row.__init__" (defArgs st_Row_init) (defBody st_Row_init) (defScope st_Row_init) (.ref t9a) kV9 dc9 pm9 an9 cd9 ct9), sl9⟩)
    (t9 : K.lookup t9a = some ⟨t9c, t9d, .seq t9i t9n, t9s⟩)
    (v9 : Vals [.non] t9i.toList)
    (c9 : PySem.W.codeIn K cd9 "Row.__init__" = true)
    (k9 : PySem.W.keepIn K (.ref p9) = true)
    (f9 : PySem.W.isFn K (.ref p9) = true)
    (a10 : PySem.W.findIn K (.ref q4) "__init__" = some (some (.ref p10)))
    (l10 : K.lookup p10 = some ⟨oc10, od10, .func (PySem.W.fnOf "__init__" "Pick.__init__" (defArgs st_Pick_init) (defBody st_Pick_init) (defScope st_Pick_init) .none kV10 dc10 pm10 an10 cd10 ct10), sl10⟩)
    (c10 : PySem.W.codeIn K cd10 "Pick.__init__" = true)
    (k10 : PySem.W.keepIn K (.ref p10) = true)
    (f10 : PySem.W.isFn K (.ref p10) = true)
    (a11 : PySem.W.nsIn K mainGlobals "_law_real" = some (some (.ref p11)))
    (l11 : K.lookup p11 = some ⟨oc11, od11, .func (PySem.W.fnOf "_law_real" "_law_real" (defArgs st_L_real) (defBody st_L_real) (defScope st_L_real) .none kV11 dc11 pm11 an11 cd11 ct11), sl11⟩)
    (c11 : PySem.W.codeIn K cd11 "_law_real" = true)
    (k11 : PySem.W.keepIn K (.ref p11) = true)
    (a12 : PySem.W.findIn K (.ref q0) "written" = some (some (.ref p12)))
    (l12 : K.lookup p12 = some ⟨oc12, od12, .func (PySem.W.fnOf "written" "Kind.written" (defArgs st_Kind_written) (defBody st_Kind_written) (defScope st_Kind_written) .none kV12 dc12 pm12 an12 cd12 ct12), sl12⟩)
    (c12 : PySem.W.codeIn K cd12 "Kind.written" = true)
    (k12 : PySem.W.keepIn K (.ref p12) = true)
    (f12 : PySem.W.isFn K (.ref p12) = true)
    (a13 : PySem.W.nsIn K mainGlobals "quoted" = some (some (.ref p13)))
    (l13 : K.lookup p13 = some ⟨oc13, od13, .func (PySem.W.fnOf "quoted" "quoted" (defArgs st_quoted) (defBody st_quoted) (defScope st_quoted) .none kV13 dc13 pm13 an13 cd13 ct13), sl13⟩)
    (c13 : PySem.W.codeIn K cd13 "quoted" = true)
    (k13 : PySem.W.keepIn K (.ref p13) = true)
    (a14 : PySem.W.findIn K (.ref q1) "written" = some (some (.ref p14)))
    (l14 : K.lookup p14 = some ⟨oc14, od14, .func (PySem.W.fnOf "written" "Word.written" (defArgs st_Word_written) (defBody st_Word_written) (defScope st_Word_written) .none kV14 dc14 pm14 an14 cd14 ct14), sl14⟩)
    (c14 : PySem.W.codeIn K cd14 "Word.written" = true)
    (k14 : PySem.W.keepIn K (.ref p14) = true)
    (f14 : PySem.W.isFn K (.ref p14) = true)
    (a15 : PySem.W.findIn K (.ref q2) "written" = some (some (.ref p15)))
    (l15 : K.lookup p15 = some ⟨oc15, od15, .func (PySem.W.fnOf "written" "Run.written" (defArgs st_Run_written) (defBody st_Run_written) (defScope st_Run_written) .none kV15 dc15 pm15 an15 cd15 ct15), sl15⟩)
    (c15 : PySem.W.codeIn K cd15 "Run.written" = true)
    (k15 : PySem.W.keepIn K (.ref p15) = true)
    (f15 : PySem.W.isFn K (.ref p15) = true)
    (a16 : PySem.W.findIn K (.ref q0) "item" = some (some (.ref p16)))
    (l16 : K.lookup p16 = some ⟨oc16, od16, .func (PySem.W.fnOf "item" "Kind.item" (defArgs st_Kind_item) (defBody st_Kind_item) (defScope st_Kind_item) .none kV16 dc16 pm16 an16 cd16 ct16), sl16⟩)
    (c16 : PySem.W.codeIn K cd16 "Kind.item" = true)
    (k16 : PySem.W.keepIn K (.ref p16) = true)
    (f16 : PySem.W.isFn K (.ref p16) = true)
    (a17 : PySem.W.findIn K (.ref q0) "alt" = some (some (.ref p17)))
    (l17 : K.lookup p17 = some ⟨oc17, od17, .func (PySem.W.fnOf "alt" "Kind.alt" (defArgs st_Kind_alt) (defBody st_Kind_alt) (defScope st_Kind_alt) .none kV17 dc17 pm17 an17 cd17 ct17), sl17⟩)
    (c17 : PySem.W.codeIn K cd17 "Kind.alt" = true)
    (k17 : PySem.W.keepIn K (.ref p17) = true)
    (f17 : PySem.W.isFn K (.ref p17) = true)
    (a18 : PySem.W.findIn K (.ref q3) "written" = some (some (.ref p18)))
    (l18 : K.lookup p18 = some ⟨oc18, od18, .func (PySem.W.fnOf "written" "Row.written" (defArgs st_Row_written) (defBody st_Row_written) (defScope st_Row_written) .none kV18 dc18 pm18 an18 cd18 ct18), sl18⟩)
    (c18 : PySem.W.codeIn K cd18 "Row.written" = true)
    (k18 : PySem.W.keepIn K (.ref p18) = true)
    (f18 : PySem.W.isFn K (.ref p18) = true)
    (a19 : PySem.W.findIn K (.ref q3) "item" = some (some (.ref p19)))
    (l19 : K.lookup p19 = some ⟨oc19, od19, .func (PySem.W.fnOf "item" "Row.item" (defArgs st_Row_item) (defBody st_Row_item) (defScope st_Row_item) .none kV19 dc19 pm19 an19 cd19 ct19), sl19⟩)
    (c19 : PySem.W.codeIn K cd19 "Row.item" = true)
    (k19 : PySem.W.keepIn K (.ref p19) = true)
    (f19 : PySem.W.isFn K (.ref p19) = true)
    (a20 : PySem.W.findIn K (.ref q4) "written" = some (some (.ref p20)))
    (l20 : K.lookup p20 = some ⟨oc20, od20, .func (PySem.W.fnOf "written" "Pick.written" (defArgs st_Pick_written) (defBody st_Pick_written) (defScope st_Pick_written) .none kV20 dc20 pm20 an20 cd20 ct20), sl20⟩)
    (c20 : PySem.W.codeIn K cd20 "Pick.written" = true)
    (k20 : PySem.W.keepIn K (.ref p20) = true)
    (f20 : PySem.W.isFn K (.ref p20) = true)
    (a21 : PySem.W.findIn K (.ref q4) "item" = some (some (.ref p21)))
    (l21 : K.lookup p21 = some ⟨oc21, od21, .func (PySem.W.fnOf "item" "Pick.item" (defArgs st_Pick_item) (defBody st_Pick_item) (defScope st_Pick_item) .none kV21 dc21 pm21 an21 cd21 ct21), sl21⟩)
    (c21 : PySem.W.codeIn K cd21 "Pick.item" = true)
    (k21 : PySem.W.keepIn K (.ref p21) = true)
    (f21 : PySem.W.isFn K (.ref p21) = true)
    (a22 : PySem.W.findIn K (.ref q4) "alt" = some (some (.ref p22)))
    (l22 : K.lookup p22 = some ⟨oc22, od22, .func (PySem.W.fnOf "alt" "Pick.alt" (defArgs st_Pick_alt) (defBody st_Pick_alt) (defScope st_Pick_alt) .none kV22 dc22 pm22 an22 cd22 ct22), sl22⟩)
    (c22 : PySem.W.codeIn K cd22 "Pick.alt" = true)
    (k22 : PySem.W.keepIn K (.ref p22) = true)
    (f22 : PySem.W.isFn K (.ref p22) = true)
    (a23 : PySem.W.findIn K (.ref q5) "written" = some (some (.ref p23)))
    (l23 : K.lookup p23 = some ⟨oc23, od23, .func (PySem.W.fnOf "written" "Many.written" (defArgs st_Many_written) (defBody st_Many_written) (defScope st_Many_written) .none kV23 dc23 pm23 an23 cd23 ct23), sl23⟩)
    (c23 : PySem.W.codeIn K cd23 "Many.written" = true)
    (k23 : PySem.W.keepIn K (.ref p23) = true)
    (f23 : PySem.W.isFn K (.ref p23) = true)
    (a24 : PySem.W.findIn K (.ref q6) "__init__" = some (some (.ref p24)))
    (l24 : K.lookup p24 = some ⟨oc24, od24, .func (PySem.W.fnOf "__init__" "Laying.__init__" (defArgs st_Laying_init) (defBody st_Laying_init) (defScope st_Laying_init) .none kV24 dc24 pm24 an24 cd24 ct24), sl24⟩)
    (c24 : PySem.W.codeIn K cd24 "Laying.__init__" = true)
    (k24 : PySem.W.keepIn K (.ref p24) = true)
    (f24 : PySem.W.isFn K (.ref p24) = true)
    (a25 : PySem.W.findIn K (.ref q6) "lay" = some (some (.ref p25)))
    (l25 : K.lookup p25 = some ⟨oc25, od25, .func (PySem.W.fnOf "lay" "Laying.lay" (defArgs st_Laying_lay) (defBody st_Laying_lay) (defScope st_Laying_lay) .none kV25 dc25 pm25 an25 cd25 ct25), sl25⟩)
    (c25 : PySem.W.codeIn K cd25 "Laying.lay" = true)
    (k25 : PySem.W.keepIn K (.ref p25) = true)
    (f25 : PySem.W.isFn K (.ref p25) = true)
    (a26 : PySem.W.findIn K (.ref q6) "lay_signs" = some (some (.ref p26)))
    (l26 : K.lookup p26 = some ⟨oc26, od26, .func (PySem.W.fnOf "lay_signs" "Laying.lay_signs" (defArgs st_Laying_lay_signs) (defBody st_Laying_lay_signs) (defScope st_Laying_lay_signs) .none kV26 dc26 pm26 an26 cd26 ct26), sl26⟩)
    (c26 : PySem.W.codeIn K cd26 "Laying.lay_signs" = true)
    (k26 : PySem.W.keepIn K (.ref p26) = true)
    (f26 : PySem.W.isFn K (.ref p26) = true)
    (a27 : PySem.W.findIn K (.ref q6) "lay_run" = some (some (.ref p27)))
    (l27 : K.lookup p27 = some ⟨oc27, od27, .func (PySem.W.fnOf "lay_run" "Laying.lay_run" (defArgs st_Laying_lay_run) (defBody st_Laying_lay_run) (defScope st_Laying_lay_run) .none kV27 dc27 pm27 an27 cd27 ct27), sl27⟩)
    (c27 : PySem.W.codeIn K cd27 "Laying.lay_run" = true)
    (k27 : PySem.W.keepIn K (.ref p27) = true)
    (f27 : PySem.W.isFn K (.ref p27) = true)
    (a28 : PySem.W.findIn K (.ref q6) "lay_kind" = some (some (.ref p28)))
    (l28 : K.lookup p28 = some ⟨oc28, od28, .func (PySem.W.fnOf "lay_kind" "Laying.lay_kind" (defArgs st_Laying_lay_kind) (defBody st_Laying_lay_kind) (defScope st_Laying_lay_kind) .none kV28 dc28 pm28 an28 cd28 ct28), sl28⟩)
    (c28 : PySem.W.codeIn K cd28 "Laying.lay_kind" = true)
    (k28 : PySem.W.keepIn K (.ref p28) = true)
    (f28 : PySem.W.isFn K (.ref p28) = true)
    (a29 : PySem.W.findIn K (.ref q6) "lay_pick" = some (some (.ref p29)))
    (l29 : K.lookup p29 = some ⟨oc29, od29, .func (PySem.W.fnOf "lay_pick" "Laying.lay_pick" (defArgs st_Laying_lay_pick) (defBody st_Laying_lay_pick) (defScope st_Laying_lay_pick) .none kV29 dc29 pm29 an29 cd29 ct29), sl29⟩)
    (c29 : PySem.W.codeIn K cd29 "Laying.lay_pick" = true)
    (k29 : PySem.W.keepIn K (.ref p29) = true)
    (f29 : PySem.W.isFn K (.ref p29) = true)
    (a30 : PySem.W.findIn K (.ref q6) "lay_many" = some (some (.ref p30)))
    (l30 : K.lookup p30 = some ⟨oc30, od30, .func (PySem.W.fnOf "lay_many" "Laying.lay_many" (defArgs st_Laying_lay_many) (defBody st_Laying_lay_many) (defScope st_Laying_lay_many) .none kV30 dc30 pm30 an30 cd30 ct30), sl30⟩)
    (c30 : PySem.W.codeIn K cd30 "Laying.lay_many" = true)
    (k30 : PySem.W.keepIn K (.ref p30) = true)
    (f30 : PySem.W.isFn K (.ref p30) = true)
    (a31 : PySem.W.nsIn K mainGlobals "rows_of" = some (some (.ref p31)))
    (l31 : K.lookup p31 = some ⟨oc31, od31, .func (PySem.W.fnOf "rows_of" "rows_of" (defArgs st_rows_of) (defBody st_rows_of) (defScope st_rows_of) .none kV31 dc31 pm31 an31 cd31 ct31), sl31⟩)
    (c31 : PySem.W.codeIn K cd31 "rows_of" = true)
    (k31 : PySem.W.keepIn K (.ref p31) = true)
    (a32 : PySem.W.nsIn K mainGlobals "_law_pool" = some (some (.ref p32)))
    (l32 : K.lookup p32 = some ⟨oc32, od32, .func (PySem.W.fnOf "_law_pool" "_law_pool" (defArgs st_L_pool) (defBody st_L_pool) (defScope st_L_pool) .none kV32 dc32 pm32 an32 cd32 ct32), sl32⟩)
    (c32 : PySem.W.codeIn K cd32 "_law_pool" = true)
    (k32 : PySem.W.keepIn K (.ref p32) = true)
    (a33 : PySem.W.nsIn K mainGlobals "_law_is_number" = some (some (.ref p33)))
    (l33 : K.lookup p33 = some ⟨oc33, od33, .func (PySem.W.fnOf "_law_is_number" "_law_is_number" (defArgs st_L_is_number) (defBody st_L_is_number) (defScope st_L_is_number) .none kV33 dc33 pm33 an33 cd33 ct33), sl33⟩)
    (c33 : PySem.W.codeIn K cd33 "_law_is_number" = true)
    (k33 : PySem.W.keepIn K (.ref p33) = true)
    (a34 : PySem.W.nsIn K mainGlobals "_law_is_row" = some (some (.ref p34)))
    (l34 : K.lookup p34 = some ⟨oc34, od34, .func (PySem.W.fnOf "_law_is_row" "_law_is_row" (defArgs st_L_is_row) (defBody st_L_is_row) (defScope st_L_is_row) .none kV34 dc34 pm34 an34 cd34 ct34), sl34⟩)
    (c34 : PySem.W.codeIn K cd34 "_law_is_row" = true)
    (k34 : PySem.W.keepIn K (.ref p34) = true)
    (a35 : PySem.W.nsIn K mainGlobals "law" = some (some (.ref p35)))
    (l35 : K.lookup p35 = some ⟨oc35, od35, .func (PySem.W.fnOf "law" "law" (defArgs st_law) (defBody st_law) (defScope st_law) .none kV35 dc35 pm35 an35 cd35 ct35), sl35⟩)
    (c35 : PySem.W.codeIn K cd35 "law" = true)
    (k35 : PySem.W.keepIn K (.ref p35) = true)
    (z_all : PySem.W.nsIn K mainGlobals "all" = some none)
    (z_bool : PySem.W.nsIn K mainGlobals "bool" = some none)
    (z_enumerate : PySem.W.nsIn K mainGlobals "enumerate" = some none)
    (z_int : PySem.W.nsIn K mainGlobals "int" = some none)
    (z_isinstance : PySem.W.nsIn K mainGlobals "isinstance" = some none)
    (z_len : PySem.W.nsIn K mainGlobals "len" = some none)
    (z_list : PySem.W.nsIn K mainGlobals "list" = some none)
    (z_max : PySem.W.nsIn K mainGlobals "max" = some none)
    (z_range : PySem.W.nsIn K mainGlobals "range" = some none)
    (z_str : PySem.W.nsIn K mainGlobals "str" = some none)
    (z_tuple : PySem.W.nsIn K mainGlobals "tuple" = some none)
    (pg6 : PySem.W.plainGet K q6 Str.empty = true)
    (hd6 : PySem.W.hasDictIn K q6 = true)
    (po6 : PySem.W.plainOver K q6 = true)
    (sa6 : PySem.W.findIn K (.ref q6) "__setattr__" = some (some (.builtin "object.__setattr__")))
    (ha6 : PySem.W.findIn K (.ref q6) "__class__" = some (some (.builtin "object.__class__")))
    (hm6 : PySem.W.mroIn K q6 (.type "object") = some true)
    (hn0 : PySem.W.specialIn K (.builtin "object.__class__") "__get__" = some (some (.builtin "getset_descriptor.__get__")))
    (ht0 : PySem.W.takesIn K (.builtin "object.__class__") = some true)
    (nf6_heap : PySem.W.findIn K (.ref q6) "heap" = some none)
    (pg5 : PySem.W.plainGet K q5 Str.empty = true)
    (hd5 : PySem.W.hasDictIn K q5 = true)
    (po5 : PySem.W.plainOver K q5 = true)
    (sa5 : PySem.W.findIn K (.ref q5) "__setattr__" = some (some (.builtin "object.__setattr__")))
    (ha5 : PySem.W.findIn K (.ref q5) "__class__" = some (some (.builtin "object.__class__")))
    (hm5 : PySem.W.mroIn K q5 (.type "object") = some true)
    (nf5_between : PySem.W.findIn K (.ref q5) "between" = some none)
    (nf5_part : PySem.W.findIn K (.ref q5) "part" = some none)
    (pg4 : PySem.W.plainGet K q4 Str.empty = true)
    (hd4 : PySem.W.hasDictIn K q4 = true)
    (po4 : PySem.W.plainOver K q4 = true)
    (sa4 : PySem.W.findIn K (.ref q4) "__setattr__" = some (some (.builtin "object.__setattr__")))
    (ha4 : PySem.W.findIn K (.ref q4) "__class__" = some (some (.builtin "object.__class__")))
    (hm4 : PySem.W.mroIn K q4 (.type "object") = some true)
    (nf4_parts : PySem.W.findIn K (.ref q4) "parts" = some none)
    (pg3 : PySem.W.plainGet K q3 Str.empty = true)
    (hd3 : PySem.W.hasDictIn K q3 = true)
    (po3 : PySem.W.plainOver K q3 = true)
    (sa3 : PySem.W.findIn K (.ref q3) "__setattr__" = some (some (.builtin "object.__setattr__")))
    (ha3 : PySem.W.findIn K (.ref q3) "__class__" = some (some (.builtin "object.__class__")))
    (hm3 : PySem.W.mroIn K q3 (.type "object") = some true)
    (nf3_parts : PySem.W.findIn K (.ref q3) "parts" = some none)
    (pg2 : PySem.W.plainGet K q2 Str.empty = true)
    (hd2 : PySem.W.hasDictIn K q2 = true)
    (po2 : PySem.W.plainOver K q2 = true)
    (sa2 : PySem.W.findIn K (.ref q2) "__setattr__" = some (some (.builtin "object.__setattr__")))
    (ha2 : PySem.W.findIn K (.ref q2) "__class__" = some (some (.builtin "object.__class__")))
    (hm2 : PySem.W.mroIn K q2 (.type "object") = some true)
    (nf2_most : PySem.W.findIn K (.ref q2) "most" = some none)
    (nf2_least : PySem.W.findIn K (.ref q2) "least" = some none)
    (nf2_signs : PySem.W.findIn K (.ref q2) "signs" = some none)
    (pg1 : PySem.W.plainGet K q1 Str.empty = true)
    (hd1 : PySem.W.hasDictIn K q1 = true)
    (po1 : PySem.W.plainOver K q1 = true)
    (sa1 : PySem.W.findIn K (.ref q1) "__setattr__" = some (some (.builtin "object.__setattr__")))
    (ha1 : PySem.W.findIn K (.ref q1) "__class__" = some (some (.builtin "object.__class__")))
    (hm1 : PySem.W.mroIn K q1 (.type "object") = some true)
    (nf1_text : PySem.W.findIn K (.ref q1) "text" = some none)
    (pg0 : PySem.W.plainGet K q0 Str.empty = true)
    (hd0 : PySem.W.hasDictIn K q0 = true)
    (po0 : PySem.W.plainOver K q0 = true)
    (sa0 : PySem.W.findIn K (.ref q0) "__setattr__" = some (some (.builtin "object.__setattr__")))
    (ha0 : PySem.W.findIn K (.ref q0) "__class__" = some (some (.builtin "object.__class__")))
    (hm0 : PySem.W.mroIn K q0 (.type "object") = some true)
    (mk1 : PySem.W.makesIn K q1 = true)
    (kc1 : PySem.W.keepIn K (.ref q1) = true)
    (mk2 : PySem.W.makesIn K q2 = true)
    (kc2 : PySem.W.keepIn K (.ref q2) = true)
    (mk3 : PySem.W.makesIn K q3 = true)
    (kc3 : PySem.W.keepIn K (.ref q3) = true)
    (mk4 : PySem.W.makesIn K q4 = true)
    (kc4 : PySem.W.keepIn K (.ref q4) = true)
    (mk5 : PySem.W.makesIn K q5 = true)
    (kc5 : PySem.W.keepIn K (.ref q5) = true)
    (mt5_item : PySem.W.findIn K (.ref q5) "item" = some (some (.ref p16)))
    (mt2_item : PySem.W.findIn K (.ref q2) "item" = some (some (.ref p16)))
    (mt1_item : PySem.W.findIn K (.ref q1) "item" = some (some (.ref p16)))
    (mt5_alt : PySem.W.findIn K (.ref q5) "alt" = some (some (.ref p17)))
    (mt3_alt : PySem.W.findIn K (.ref q3) "alt" = some (some (.ref p17)))
    (mt2_alt : PySem.W.findIn K (.ref q2) "alt" = some (some (.ref p17)))
    (mt1_alt : PySem.W.findIn K (.ref q1) "alt" = some (some (.ref p17)))
    (ic1 : PySem.W.isClsIn K q1 = true)
    (ty1 : PySem.W.typeIn K (.ref q1) = some (.type "type"))
    (s1_1 : PySem.W.subIn K (.ref q1) (.ref q1) = some true)
    (s6_1 : PySem.W.subIn K (.ref q6) (.ref q1) = some false)
    (s5_1 : PySem.W.subIn K (.ref q5) (.ref q1) = some false)
    (s4_1 : PySem.W.subIn K (.ref q4) (.ref q1) = some false)
    (s3_1 : PySem.W.subIn K (.ref q3) (.ref q1) = some false)
    (s2_1 : PySem.W.subIn K (.ref q2) (.ref q1) = some false)
    (s0_1 : PySem.W.subIn K (.ref q0) (.ref q1) = some false)
    (ic2 : PySem.W.isClsIn K q2 = true)
    (ty2 : PySem.W.typeIn K (.ref q2) = some (.type "type"))
    (s2_2 : PySem.W.subIn K (.ref q2) (.ref q2) = some true)
    (s6_2 : PySem.W.subIn K (.ref q6) (.ref q2) = some false)
    (s5_2 : PySem.W.subIn K (.ref q5) (.ref q2) = some false)
    (s4_2 : PySem.W.subIn K (.ref q4) (.ref q2) = some false)
    (s3_2 : PySem.W.subIn K (.ref q3) (.ref q2) = some false)
    (s1_2 : PySem.W.subIn K (.ref q1) (.ref q2) = some false)
    (s0_2 : PySem.W.subIn K (.ref q0) (.ref q2) = some false)
    (ic3 : PySem.W.isClsIn K q3 = true)
    (ty3 : PySem.W.typeIn K (.ref q3) = some (.type "type"))
    (s3_3 : PySem.W.subIn K (.ref q3) (.ref q3) = some true)
    (s6_3 : PySem.W.subIn K (.ref q6) (.ref q3) = some false)
    (s5_3 : PySem.W.subIn K (.ref q5) (.ref q3) = some false)
    (s4_3 : PySem.W.subIn K (.ref q4) (.ref q3) = some false)
    (s2_3 : PySem.W.subIn K (.ref q2) (.ref q3) = some false)
    (s1_3 : PySem.W.subIn K (.ref q1) (.ref q3) = some false)
    (s0_3 : PySem.W.subIn K (.ref q0) (.ref q3) = some false)
    (ic4 : PySem.W.isClsIn K q4 = true)
    (ty4 : PySem.W.typeIn K (.ref q4) = some (.type "type"))
    (s4_4 : PySem.W.subIn K (.ref q4) (.ref q4) = some true)
    (s6_4 : PySem.W.subIn K (.ref q6) (.ref q4) = some false)
    (s5_4 : PySem.W.subIn K (.ref q5) (.ref q4) = some false)
    (s3_4 : PySem.W.subIn K (.ref q3) (.ref q4) = some false)
    (s2_4 : PySem.W.subIn K (.ref q2) (.ref q4) = some false)
    (s1_4 : PySem.W.subIn K (.ref q1) (.ref q4) = some false)
    (s0_4 : PySem.W.subIn K (.ref q0) (.ref q4) = some false)
    (ic5 : PySem.W.isClsIn K q5 = true)
    (ty5 : PySem.W.typeIn K (.ref q5) = some (.type "type"))
    (s5_5 : PySem.W.subIn K (.ref q5) (.ref q5) = some true)
    (s6_5 : PySem.W.subIn K (.ref q6) (.ref q5) = some false)
    (s4_5 : PySem.W.subIn K (.ref q4) (.ref q5) = some false)
    (s3_5 : PySem.W.subIn K (.ref q3) (.ref q5) = some false)
    (s2_5 : PySem.W.subIn K (.ref q2) (.ref q5) = some false)
    (s1_5 : PySem.W.subIn K (.ref q1) (.ref q5) = some false)
    (s0_5 : PySem.W.subIn K (.ref q0) (.ref q5) = some false)
    (mk6 : PySem.W.makesIn K q6 = true)
    (kc6 : PySem.W.keepIn K (.ref q6) = true) :
    ∃ fd : FuncData, (∀ (s : Shared) (v : Value), BindsTo s fd ⟨[v], []⟩ [("_law_script", v)]) ∧ ∀ base : Heap, K.In base → base.Ns mainGlobals mg → FnOk l.prog w K mg base (L2.CX l.prog w) 24 fa fd ["_law_script"] (spL K f_law) := by
  have e := hfa.symm.trans (PySem.W.mg_of X N a35)
  cases e
  refine ⟨PySem.W.fnOf "law" "law" (defArgs st_law) (defBody st_law) (defScope st_law) .none kV35 dc35 pm35 an35 cd35 ct35, fun s v => .of_eq rfl, fun base _ _ => ?_⟩
  have m_all := PySem.W.mg_none_of X N z_all
  have m_bool := PySem.W.mg_none_of X N z_bool
  have m_enumerate := PySem.W.mg_none_of X N z_enumerate
  have m_int := PySem.W.mg_none_of X N z_int
  have m_isinstance := PySem.W.mg_none_of X N z_isinstance
  have m_len := PySem.W.mg_none_of X N z_len
  have m_list := PySem.W.mg_none_of X N z_list
  have m_max := PySem.W.mg_none_of X N z_max
  have m_range := PySem.W.mg_none_of X N z_range
  have m_str := PySem.W.mg_none_of X N z_str
  have m_tuple := PySem.W.mg_none_of X N z_tuple
  let G : Gx := ⟨K, fun c => if c = "Kind" then q0 else if c = "Word" then q1 else if c = "Run" then q2 else if c = "Row" then q3 else if c = "Pick" then q4 else if c = "Many" then q5 else if c = "Laying" then q6 else 0⟩
  have e_Kind : G.cls "Kind" = q0 := by simp [G]
  have e_Word : G.cls "Word" = q1 := by simp [G]
  have e_Run : G.cls "Run" = q2 := by simp [G]
  have e_Row : G.cls "Row" = q3 := by simp [G]
  have e_Pick : G.cls "Pick" = q4 := by simp [G]
  have e_Many : G.cls "Many" = q5 := by simp [G]
  have e_Laying : G.cls "Laying" = q6 := by simp [G]
  have F0 := fun_mk (st := st_L_draw) l0 c0 k0
  have O0 := ok_L_draw (P := l.prog) (w := w) (mg := mg) (base := base) (G := G) (k := 0) F0 m_int m_len 
  have F1 := fun_mk (st := st_L_taken) l1 c1 k1
  have O1 := ok_L_taken (P := l.prog) (w := w) (mg := mg) (base := base) (G := G) (k := 0) F1  
  have F2 := fun_mk (st := st_L_tangled) l2 c2 k2
  have B1 := F1.binds (ps := ["_law_pool_here", "_law_many"]) fun _ _ _ _ _ _ us hl => match us, hl with | [_, _], _ => rfl
  have B0 := F0.binds (ps := ["_law_script", "_law_at", "_law_many"]) fun _ _ _ _ _ _ us hl => match us, hl with | [_, _, _], _ => rfl
  have O2 := ok_L_tangled (P := l.prog) (w := w) (mg := mg) (base := base) (G := G) (k := 1) F2 m_list m_tuple (GFn.of (PySem.W.mg_of X N a1) F1.kp (O1.mono (by omega)) B1) (GFn.of (PySem.W.mg_of X N a0) F0.kp (O0.mono (by omega)) B0)
  have F3 := fun_mk (st := st_L_leaf) l3 c3 k3
  have B2 := F2.binds (ps := ["_law_script", "_law_at", "_law_pool_here"]) fun _ _ _ _ _ _ us hl => match us, hl with | [_, _, _], _ => rfl
  have O3 := ok_L_leaf (P := l.prog) (w := w) (mg := mg) (base := base) (G := G) (k := 2) F3 m_max (GFn.of (PySem.W.mg_of X N a0) F0.kp (O0.mono (by omega)) B0) (GFn.of (PySem.W.mg_of X N a2) F2.kp (O2.mono (by omega)) B2) (GFn.of (PySem.W.mg_of X N a1) F1.kp (O1.mono (by omega)) B1)
  have F4 := fun_mk (st := st_L_opened) l4 c4 k4
  have F5 := fun_mk (st := st_L_clear) l5 c5 k5
  have B5 := F5.binds (ps := ["_law_script", "_law_at", "_law_pool_here", "_law_deep", "_law_room"]) fun _ _ _ _ _ _ us hl => match us, hl with | [_, _, _, _, _], _ => rfl
  have B3 := F3.binds (ps := ["_law_script", "_law_at", "_law_pool_here"]) fun _ _ _ _ _ _ us hl => match us, hl with | [_, _, _], _ => rfl
  have B4 := F4.binds (ps := ["_law_script", "_law_at", "_law_pool_here", "_law_deep", "_law_room"]) fun _ _ _ _ _ _ us hl => match us, hl with | [_, _, _, _, _], _ => rfl
  have S0 : ∀ n : Nat, FnOk l.prog w G.K mg base (L2.CX l.prog w) (3 + 1 * n) p4 (PySem.W.fnOf "_law_opened" "_law_opened" (defArgs st_L_opened) (defBody st_L_opened) (defScope st_L_opened) .none kV4 dc4 pm4 an4 cd4 ct4) ["_law_script", "_law_at", "_law_pool_here", "_law_deep", "_law_room"] (spF G (R_0 n 0)) ∧ FnOk l.prog w G.K mg base (L2.CX l.prog w) (3 + 1 * n) p5 (PySem.W.fnOf "_law_clear" "_law_clear" (defArgs st_L_clear) (defBody st_L_clear) (defScope st_L_clear) .none kV5 dc5 pm5 an5 cd5 ct5) ["_law_script", "_law_at", "_law_pool_here", "_law_deep", "_law_room"] (spF G (R_0 n 1)) := by
    intro n; induction n with
    | zero => exact ⟨fnok_none, fnok_none⟩
    | succ n ih =>
      obtain ⟨h0, h1⟩ := ih
      exact ⟨((ok_L_opened (P := l.prog) (w := w) (mg := mg) (base := base) (G := G) (T := R_0 n) (k := 3 + 1 * n + 0) F4  (GFn.of (PySem.W.mg_of X N a5) F5.kp (h1.mono (by omega)) B5) (GFn.of (PySem.W.mg_of X N a1) F1.kp (O1.mono (by omega)) B1)).mono (by omega)),
        ((ok_L_clear (P := l.prog) (w := w) (mg := mg) (base := base) (G := G) (T := R_0 n) (k := 3 + 1 * n + 0) F5 m_range m_tuple (GFn.of (PySem.W.mg_of X N a0) F0.kp (O0.mono (by omega)) B0) (GFn.of (PySem.W.mg_of X N a3) F3.kp (O3.mono (by omega)) B3) (GFn.of (PySem.W.mg_of X N a5) F5.kp (h1.mono (by omega)) B5) (GFn.of (PySem.W.mg_of X N a4) F4.kp (h0.mono (by omega)) B4) (GFn.of (PySem.W.mg_of X N a1) F1.kp (O1.mono (by omega)) B1)).mono (by omega))⟩
  have O4 := (S0 20).1
  have O5 := (S0 20).2
  have L_Laying : Cls G.K (G.cls "Laying") := by rw [e_Laying]; exact ⟨pg6, hd6, po6, sa6⟩
  have Z_Laying : InsZ G.K (G.cls "Laying") := by rw [e_Laying] at L_Laying ⊢; exact ⟨fun H a dx vs e => .ins e L_Laying ha6 hn0 ht0 hm6⟩
  have L_Many : Cls G.K (G.cls "Many") := by rw [e_Many]; exact ⟨pg5, hd5, po5, sa5⟩
  have Z_Many : InsZ G.K (G.cls "Many") := by rw [e_Many] at L_Many ⊢; exact ⟨fun H a dx vs e => .ins e L_Many ha5 hn0 ht0 hm5⟩
  have L_Pick : Cls G.K (G.cls "Pick") := by rw [e_Pick]; exact ⟨pg4, hd4, po4, sa4⟩
  have Z_Pick : InsZ G.K (G.cls "Pick") := by rw [e_Pick] at L_Pick ⊢; exact ⟨fun H a dx vs e => .ins e L_Pick ha4 hn0 ht0 hm4⟩
  have L_Row : Cls G.K (G.cls "Row") := by rw [e_Row]; exact ⟨pg3, hd3, po3, sa3⟩
  have Z_Row : InsZ G.K (G.cls "Row") := by rw [e_Row] at L_Row ⊢; exact ⟨fun H a dx vs e => .ins e L_Row ha3 hn0 ht0 hm3⟩
  have L_Run : Cls G.K (G.cls "Run") := by rw [e_Run]; exact ⟨pg2, hd2, po2, sa2⟩
  have Z_Run : InsZ G.K (G.cls "Run") := by rw [e_Run] at L_Run ⊢; exact ⟨fun H a dx vs e => .ins e L_Run ha2 hn0 ht0 hm2⟩
  have L_Word : Cls G.K (G.cls "Word") := by rw [e_Word]; exact ⟨pg1, hd1, po1, sa1⟩
  have Z_Word : InsZ G.K (G.cls "Word") := by rw [e_Word] at L_Word ⊢; exact ⟨fun H a dx vs e => .ins e L_Word ha1 hn0 ht0 hm1⟩
  have L_Kind : Cls G.K (G.cls "Kind") := by rw [e_Kind]; exact ⟨pg0, hd0, po0, sa0⟩
  have Z_Kind : InsZ G.K (G.cls "Kind") := by rw [e_Kind] at L_Kind ⊢; exact ⟨fun H a dx vs e => .ins e L_Kind ha0 hn0 ht0 hm0⟩
  have CT : CtOk G ct := ⟨(fm_cons (by show InsC G.K (G.cls "Kind") _; rw [e_Kind]; exact ⟨⟨pg0, hd0, po0, sa0⟩, ha0, hn0, ht0, hm0, fm_nil⟩) (fm_cons (by show InsC G.K (G.cls "Word") _; rw [e_Word]; exact ⟨⟨pg1, hd1, po1, sa1⟩, ha1, hn0, ht0, hm1, (fm_cons nf1_text fm_nil)⟩) (fm_cons (by show InsC G.K (G.cls "Run") _; rw [e_Run]; exact ⟨⟨pg2, hd2, po2, sa2⟩, ha2, hn0, ht0, hm2, (fm_cons nf2_signs (fm_cons nf2_least (fm_cons nf2_most fm_nil)))⟩) (fm_cons (by show InsC G.K (G.cls "Row") _; rw [e_Row]; exact ⟨⟨pg3, hd3, po3, sa3⟩, ha3, hn0, ht0, hm3, (fm_cons nf3_parts fm_nil)⟩) (fm_cons (by show InsC G.K (G.cls "Pick") _; rw [e_Pick]; exact ⟨⟨pg4, hd4, po4, sa4⟩, ha4, hn0, ht0, hm4, (fm_cons nf4_parts fm_nil)⟩) (fm_cons (by show InsC G.K (G.cls "Many") _; rw [e_Many]; exact ⟨⟨pg5, hd5, po5, sa5⟩, ha5, hn0, ht0, hm5, (fm_cons nf5_part (fm_cons nf5_between fm_nil))⟩) (fm_cons (by show InsC G.K (G.cls "Laying") _; rw [e_Laying]; exact ⟨⟨pg6, hd6, po6, sa6⟩, ha6, hn0, ht0, hm6, (fm_cons nf6_heap fm_nil)⟩) fm_nil))))))), fm_nil⟩
  have F6 := funv_mk (st := st_Many_init) (dvs := [.str ""]) l6 t6 v6 (by simp) c6 k6
  have O6 := ok_Many_init (P := l.prog) (w := w) (mg := mg) (base := base) (G := G) (k := 0) F6  CT
  have F7 := fun_mk (st := st_Word_init) l7 c7 k7
  have O7 := ok_Word_init (P := l.prog) (w := w) (mg := mg) (base := base) (G := G) (k := 0) F7  CT
  have F8 := fun_mk (st := st_Run_init) l8 c8 k8
  have O8 := ok_Run_init (P := l.prog) (w := w) (mg := mg) (base := base) (G := G) (k := 0) F8  CT
  have F9 := funv_mk (st := st_Row_init) (dvs := [.non]) l9 t9 v9 (by simp) c9 k9
  have O9 := ok_Row_init (P := l.prog) (w := w) (mg := mg) (base := base) (G := G) (k := 0) F9 m_list CT
  have F10 := fun_mk (st := st_Pick_init) l10 c10 k10
  have O10 := ok_Pick_init (P := l.prog) (w := w) (mg := mg) (base := base) (G := G) (k := 0) F10 m_list CT
  have F11 := fun_mk (st := st_L_real) l11 c11 k11
  have B7 := F7.binds (ps := ["self", "text"]) fun _ _ _ _ _ _ us hl => match us, hl with | [_, _], _ => rfl
  have B8 := F8.binds (ps := ["self", "signs", "least", "most"]) fun _ _ _ _ _ _ us hl => match us, hl with | [_, _, _, _], _ => rfl
  obtain ⟨ds9_0, V9_0, B9_0⟩ := F9.binds1 (ps := ["self", "parts"]) 2 1 (by simp) (by rfl) fun _ _ _ _ _ _ _ us its hu hi => match us, its, hu, hi with | [_, _], [_], _, _ => ⟨_, rfl, rfl⟩
  have B11 := F11.binds (ps := ["_law_kind"]) fun _ _ _ _ _ _ us hl => match us, hl with | [_], _ => rfl
  have B10 := F10.binds (ps := ["self", "parts"]) fun _ _ _ _ _ _ us hl => match us, hl with | [_, _], _ => rfl
  obtain ⟨ds6_0, V6_0, B6_0⟩ := F6.binds1 (ps := ["self", "part", "between"]) 3 1 (by simp) (by rfl) fun _ _ _ _ _ _ _ us its hu hi => match us, its, hu, hi with | [_, _, _], [_], _, _ => ⟨_, rfl, rfl⟩
  have S1 : ∀ n : Nat, FnOk l.prog w G.K mg base (L2.CX l.prog w) (2 + 1 * n) p11 (PySem.W.fnOf "_law_real" "_law_real" (defArgs st_L_real) (defBody st_L_real) (defScope st_L_real) .none kV11 dc11 pm11 an11 cd11 ct11) ["_law_kind"] (spF G (R_1 n 0)) := by
    intro n; induction n with
    | zero => exact fnok_none
    | succ n ih =>
      have h0 := ih
      exact ((ok_L_real (P := l.prog) (w := w) (mg := mg) (base := base) (G := G) (T := R_1 n) (k := 2 + 1 * n + 0) F11  (KGn.mk ⟨p7, _, _, _, _, _, (by omega), by rw [e_Word]; exact PySem.W.mg_of X N A1, by rw [e_Word]; exact ⟨mk1, a7, f7, kc1⟩, (O7), B7, .nil, fun _ => .nil⟩) (KGn.mk ⟨p8, _, _, _, _, _, (by omega), by rw [e_Run]; exact PySem.W.mg_of X N A2, by rw [e_Run]; exact ⟨mk2, a8, f8, kc2⟩, (O8), B8, .nil, fun _ => .nil⟩) (KGn.mk ⟨p9, _, _, _, _, _, (by omega), by rw [e_Row]; exact PySem.W.mg_of X N A3, by rw [e_Row]; exact ⟨mk3, a9, f9, kc3⟩, (O9), B9_0, V9_0, fun _ => .nil⟩) (GFn.of (PySem.W.mg_of X N a11) F11.kp (h0.mono (by omega)) B11) (KGn.mk ⟨p10, _, _, _, _, _, (by omega), by rw [e_Pick]; exact PySem.W.mg_of X N A4, by rw [e_Pick]; exact ⟨mk4, a10, f10, kc4⟩, (O10), B10, .nil, fun _ => .nil⟩) (KGn.mk ⟨p6, _, _, _, _, _, (by omega), by rw [e_Many]; exact PySem.W.mg_of X N A5, by rw [e_Many]; exact ⟨mk5, a6, f6, kc5⟩, (O6), B6_0, V6_0, fun _ => .nil⟩)).mono (by omega))
  have O11 := (S1 20)
  have F12 := fun_mk (st := st_Kind_written) l12 c12 k12
  have O12 := ok_Kind_written (P := l.prog) (w := w) (mg := mg) (base := base) (G := G) (k := 0) F12  
  have F13 := fun_mk (st := st_quoted) l13 c13 k13
  have O13 := ok_quoted (P := l.prog) (w := w) (mg := mg) (base := base) (G := G) (k := 0) F13  
  have F14 := fun_mk (st := st_Word_written) l14 c14 k14
  have B13 := F13.binds (ps := ["text"]) fun _ _ _ _ _ _ us hl => match us, hl with | [_], _ => rfl
  have O14 := ok_Word_written (P := l.prog) (w := w) (mg := mg) (base := base) (G := G) (k := 1) F14  (GFn.of (PySem.W.mg_of X N a13) F13.kp (O13.mono (by omega)) B13) CT
  have F15 := fun_mk (st := st_Run_written) l15 c15 k15
  have O15 := ok_Run_written (P := l.prog) (w := w) (mg := mg) (base := base) (G := G) (k := 1) F15 m_str (GFn.of (PySem.W.mg_of X N a13) F13.kp (O13.mono (by omega)) B13) CT
  have F16 := fun_mk (st := st_Kind_item) l16 c16 k16
  have F23 := fun_mk (st := st_Many_written) l23 c23 k23
  have B23 := F23.binds (ps := ["self"]) fun _ _ _ _ _ _ us hl => match us, hl with | [_], _ => rfl
  have F20 := fun_mk (st := st_Pick_written) l20 c20 k20
  have B20 := F20.binds (ps := ["self"]) fun _ _ _ _ _ _ us hl => match us, hl with | [_], _ => rfl
  have F18 := fun_mk (st := st_Row_written) l18 c18 k18
  have B18 := F18.binds (ps := ["self"]) fun _ _ _ _ _ _ us hl => match us, hl with | [_], _ => rfl
  have B15 := F15.binds (ps := ["self"]) fun _ _ _ _ _ _ us hl => match us, hl with | [_], _ => rfl
  have B14 := F14.binds (ps := ["self"]) fun _ _ _ _ _ _ us hl => match us, hl with | [_], _ => rfl
  have B12 := F12.binds (ps := ["self"]) fun _ _ _ _ _ _ us hl => match us, hl with | [_], _ => rfl
  have F17 := fun_mk (st := st_Kind_alt) l17 c17 k17
  have B16 := F16.binds (ps := ["self"]) fun _ _ _ _ _ _ us hl => match us, hl with | [_], _ => rfl
  have F21 := fun_mk (st := st_Pick_item) l21 c21 k21
  have B21 := F21.binds (ps := ["self"]) fun _ _ _ _ _ _ us hl => match us, hl with | [_], _ => rfl
  have F19 := fun_mk (st := st_Row_item) l19 c19 k19
  have B19 := F19.binds (ps := ["self"]) fun _ _ _ _ _ _ us hl => match us, hl with | [_], _ => rfl
  have B17 := F17.binds (ps := ["self"]) fun _ _ _ _ _ _ us hl => match us, hl with | [_], _ => rfl
  have F22 := fun_mk (st := st_Pick_alt) l22 c22 k22
  have B22 := F22.binds (ps := ["self"]) fun _ _ _ _ _ _ us hl => match us, hl with | [_], _ => rfl
  have S2 : ∀ n : Nat, FnOk l.prog w G.K mg base (L2.CX l.prog w) (2 + 1 * n) p16 (PySem.W.fnOf "item" "Kind.item" (defArgs st_Kind_item) (defBody st_Kind_item) (defScope st_Kind_item) .none kV16 dc16 pm16 an16 cd16 ct16) ["self"] (spF G (R_2 n 0)) ∧ FnOk l.prog w G.K mg base (L2.CX l.prog w) (2 + 1 * n) p17 (PySem.W.fnOf "alt" "Kind.alt" (defArgs st_Kind_alt) (defBody st_Kind_alt) (defScope st_Kind_alt) .none kV17 dc17 pm17 an17 cd17 ct17) ["self"] (spF G (R_2 n 1)) ∧ FnOk l.prog w G.K mg base (L2.CX l.prog w) (2 + 1 * n) p18 (PySem.W.fnOf "written" "Row.written" (defArgs st_Row_written) (defBody st_Row_written) (defScope st_Row_written) .none kV18 dc18 pm18 an18 cd18 ct18) ["self"] (spF G (R_2 n 2)) ∧ FnOk l.prog w G.K mg base (L2.CX l.prog w) (2 + 1 * n) p19 (PySem.W.fnOf "item" "Row.item" (defArgs st_Row_item) (defBody st_Row_item) (defScope st_Row_item) .none kV19 dc19 pm19 an19 cd19 ct19) ["self"] (spF G (R_2 n 3)) ∧ FnOk l.prog w G.K mg base (L2.CX l.prog w) (2 + 1 * n) p20 (PySem.W.fnOf "written" "Pick.written" (defArgs st_Pick_written) (defBody st_Pick_written) (defScope st_Pick_written) .none kV20 dc20 pm20 an20 cd20 ct20) ["self"] (spF G (R_2 n 4)) ∧ FnOk l.prog w G.K mg base (L2.CX l.prog w) (2 + 1 * n) p21 (PySem.W.fnOf "item" "Pick.item" (defArgs st_Pick_item) (defBody st_Pick_item) (defScope st_Pick_item) .none kV21 dc21 pm21 an21 cd21 ct21) ["self"] (spF G (R_2 n 5)) ∧ FnOk l.prog w G.K mg base (L2.CX l.prog w) (2 + 1 * n) p22 (PySem.W.fnOf "alt" "Pick.alt" (defArgs st_Pick_alt) (defBody st_Pick_alt) (defScope st_Pick_alt) .none kV22 dc22 pm22 an22 cd22 ct22) ["self"] (spF G (R_2 n 6)) ∧ FnOk l.prog w G.K mg base (L2.CX l.prog w) (2 + 1 * n) p23 (PySem.W.fnOf "written" "Many.written" (defArgs st_Many_written) (defBody st_Many_written) (defScope st_Many_written) .none kV23 dc23 pm23 an23 cd23 ct23) ["self"] (spF G (R_2 n 7)) := by
    intro n; induction n with
    | zero => exact ⟨fnok_none, fnok_none, fnok_none, fnok_none, fnok_none, fnok_none, fnok_none, fnok_none⟩
    | succ n ih =>
      obtain ⟨h0, h1, h2, h3, h4, h5, h6, h7⟩ := ih
      exact ⟨((ok_Kind_item (P := l.prog) (w := w) (mg := mg) (base := base) (G := G) (T := R_2 n) (k := 2 + 1 * n + 0) F16  (.cons ⟨L_Kind, p12, _, _, _, _, by rw [e_Kind]; exact ⟨a12, f12, k12⟩, (O12.mono (by omega)), B12, .nil, fun _ => .nil⟩ (.cons ⟨L_Word, p14, _, _, _, _, by rw [e_Word]; exact ⟨a14, f14, k14⟩, (O14.mono (by omega)), B14, .nil, fun _ => .nil⟩ (.cons ⟨L_Run, p15, _, _, _, _, by rw [e_Run]; exact ⟨a15, f15, k15⟩, (O15.mono (by omega)), B15, .nil, fun _ => .nil⟩ (.cons ⟨L_Row, p18, _, _, _, _, by rw [e_Row]; exact ⟨a18, f18, k18⟩, (h2.mono (by omega)), B18, .nil, fun _ => .nil⟩ (.cons ⟨L_Pick, p20, _, _, _, _, by rw [e_Pick]; exact ⟨a20, f20, k20⟩, (h4.mono (by omega)), B20, .nil, fun _ => .nil⟩ (.cons ⟨L_Many, p23, _, _, _, _, by rw [e_Many]; exact ⟨a23, f23, k23⟩, (h7.mono (by omega)), B23, .nil, fun _ => .nil⟩ .nil))))))).mono (by omega)),
        ((ok_Kind_alt (P := l.prog) (w := w) (mg := mg) (base := base) (G := G) (T := R_2 n) (k := 2 + 1 * n + 0) F17  (.cons ⟨L_Kind, p12, _, _, _, _, by rw [e_Kind]; exact ⟨a12, f12, k12⟩, (O12.mono (by omega)), B12, .nil, fun _ => .nil⟩ (.cons ⟨L_Word, p14, _, _, _, _, by rw [e_Word]; exact ⟨a14, f14, k14⟩, (O14.mono (by omega)), B14, .nil, fun _ => .nil⟩ (.cons ⟨L_Run, p15, _, _, _, _, by rw [e_Run]; exact ⟨a15, f15, k15⟩, (O15.mono (by omega)), B15, .nil, fun _ => .nil⟩ (.cons ⟨L_Row, p18, _, _, _, _, by rw [e_Row]; exact ⟨a18, f18, k18⟩, (h2.mono (by omega)), B18, .nil, fun _ => .nil⟩ (.cons ⟨L_Pick, p20, _, _, _, _, by rw [e_Pick]; exact ⟨a20, f20, k20⟩, (h4.mono (by omega)), B20, .nil, fun _ => .nil⟩ (.cons ⟨L_Many, p23, _, _, _, _, by rw [e_Many]; exact ⟨a23, f23, k23⟩, (h7.mono (by omega)), B23, .nil, fun _ => .nil⟩ .nil))))))).mono (by omega)),
        ((ok_Row_written (P := l.prog) (w := w) (mg := mg) (base := base) (G := G) (T := R_2 n) (k := 2 + 1 * n + 0) F18 m_len CT (.cons ⟨L_Kind, p16, _, _, _, _, by rw [e_Kind]; exact ⟨a16, f16, k16⟩, (h0.mono (by omega)), B16, .nil, fun _ => .nil⟩ (.cons ⟨L_Word, p16, _, _, _, _, by rw [e_Word]; exact ⟨mt1_item, f16, k16⟩, (h0.mono (by omega)), B16, .nil, fun _ => .nil⟩ (.cons ⟨L_Run, p16, _, _, _, _, by rw [e_Run]; exact ⟨mt2_item, f16, k16⟩, (h0.mono (by omega)), B16, .nil, fun _ => .nil⟩ (.cons ⟨L_Row, p19, _, _, _, _, by rw [e_Row]; exact ⟨a19, f19, k19⟩, (h3.mono (by omega)), B19, .nil, fun _ => .nil⟩ (.cons ⟨L_Pick, p21, _, _, _, _, by rw [e_Pick]; exact ⟨a21, f21, k21⟩, (h5.mono (by omega)), B21, .nil, fun _ => .nil⟩ (.cons ⟨L_Many, p16, _, _, _, _, by rw [e_Many]; exact ⟨mt5_item, f16, k16⟩, (h0.mono (by omega)), B16, .nil, fun _ => .nil⟩ .nil))))))).mono (by omega)),
        ((ok_Row_item (P := l.prog) (w := w) (mg := mg) (base := base) (G := G) (T := R_2 n) (k := 2 + 1 * n + 0) F19 m_len CT (.cons ⟨L_Kind, p12, _, _, _, _, by rw [e_Kind]; exact ⟨a12, f12, k12⟩, (O12.mono (by omega)), B12, .nil, fun _ => .nil⟩ (.cons ⟨L_Word, p14, _, _, _, _, by rw [e_Word]; exact ⟨a14, f14, k14⟩, (O14.mono (by omega)), B14, .nil, fun _ => .nil⟩ (.cons ⟨L_Run, p15, _, _, _, _, by rw [e_Run]; exact ⟨a15, f15, k15⟩, (O15.mono (by omega)), B15, .nil, fun _ => .nil⟩ (.cons ⟨L_Row, p18, _, _, _, _, by rw [e_Row]; exact ⟨a18, f18, k18⟩, (h2.mono (by omega)), B18, .nil, fun _ => .nil⟩ (.cons ⟨L_Pick, p20, _, _, _, _, by rw [e_Pick]; exact ⟨a20, f20, k20⟩, (h4.mono (by omega)), B20, .nil, fun _ => .nil⟩ (.cons ⟨L_Many, p23, _, _, _, _, by rw [e_Many]; exact ⟨a23, f23, k23⟩, (h7.mono (by omega)), B23, .nil, fun _ => .nil⟩ .nil))))))).mono (by omega)),
        ((ok_Pick_written (P := l.prog) (w := w) (mg := mg) (base := base) (G := G) (T := R_2 n) (k := 2 + 1 * n + 0) F20  CT (.cons ⟨L_Kind, p17, _, _, _, _, by rw [e_Kind]; exact ⟨a17, f17, k17⟩, (h1.mono (by omega)), B17, .nil, fun _ => .nil⟩ (.cons ⟨L_Word, p17, _, _, _, _, by rw [e_Word]; exact ⟨mt1_alt, f17, k17⟩, (h1.mono (by omega)), B17, .nil, fun _ => .nil⟩ (.cons ⟨L_Run, p17, _, _, _, _, by rw [e_Run]; exact ⟨mt2_alt, f17, k17⟩, (h1.mono (by omega)), B17, .nil, fun _ => .nil⟩ (.cons ⟨L_Row, p17, _, _, _, _, by rw [e_Row]; exact ⟨mt3_alt, f17, k17⟩, (h1.mono (by omega)), B17, .nil, fun _ => .nil⟩ (.cons ⟨L_Pick, p22, _, _, _, _, by rw [e_Pick]; exact ⟨a22, f22, k22⟩, (h6.mono (by omega)), B22, .nil, fun _ => .nil⟩ (.cons ⟨L_Many, p17, _, _, _, _, by rw [e_Many]; exact ⟨mt5_alt, f17, k17⟩, (h1.mono (by omega)), B17, .nil, fun _ => .nil⟩ .nil))))))).mono (by omega)),
        ((ok_Pick_item (P := l.prog) (w := w) (mg := mg) (base := base) (G := G) (T := R_2 n) (k := 2 + 1 * n + 0) F21  (.cons ⟨L_Kind, p12, _, _, _, _, by rw [e_Kind]; exact ⟨a12, f12, k12⟩, (O12.mono (by omega)), B12, .nil, fun _ => .nil⟩ (.cons ⟨L_Word, p14, _, _, _, _, by rw [e_Word]; exact ⟨a14, f14, k14⟩, (O14.mono (by omega)), B14, .nil, fun _ => .nil⟩ (.cons ⟨L_Run, p15, _, _, _, _, by rw [e_Run]; exact ⟨a15, f15, k15⟩, (O15.mono (by omega)), B15, .nil, fun _ => .nil⟩ (.cons ⟨L_Row, p18, _, _, _, _, by rw [e_Row]; exact ⟨a18, f18, k18⟩, (h2.mono (by omega)), B18, .nil, fun _ => .nil⟩ (.cons ⟨L_Pick, p20, _, _, _, _, by rw [e_Pick]; exact ⟨a20, f20, k20⟩, (h4.mono (by omega)), B20, .nil, fun _ => .nil⟩ (.cons ⟨L_Many, p23, _, _, _, _, by rw [e_Many]; exact ⟨a23, f23, k23⟩, (h7.mono (by omega)), B23, .nil, fun _ => .nil⟩ .nil))))))).mono (by omega)),
        ((ok_Pick_alt (P := l.prog) (w := w) (mg := mg) (base := base) (G := G) (T := R_2 n) (k := 2 + 1 * n + 0) F22  (.cons ⟨L_Kind, p12, _, _, _, _, by rw [e_Kind]; exact ⟨a12, f12, k12⟩, (O12.mono (by omega)), B12, .nil, fun _ => .nil⟩ (.cons ⟨L_Word, p14, _, _, _, _, by rw [e_Word]; exact ⟨a14, f14, k14⟩, (O14.mono (by omega)), B14, .nil, fun _ => .nil⟩ (.cons ⟨L_Run, p15, _, _, _, _, by rw [e_Run]; exact ⟨a15, f15, k15⟩, (O15.mono (by omega)), B15, .nil, fun _ => .nil⟩ (.cons ⟨L_Row, p18, _, _, _, _, by rw [e_Row]; exact ⟨a18, f18, k18⟩, (h2.mono (by omega)), B18, .nil, fun _ => .nil⟩ (.cons ⟨L_Pick, p20, _, _, _, _, by rw [e_Pick]; exact ⟨a20, f20, k20⟩, (h4.mono (by omega)), B20, .nil, fun _ => .nil⟩ (.cons ⟨L_Many, p23, _, _, _, _, by rw [e_Many]; exact ⟨a23, f23, k23⟩, (h7.mono (by omega)), B23, .nil, fun _ => .nil⟩ .nil))))))).mono (by omega)),
        ((ok_Many_written (P := l.prog) (w := w) (mg := mg) (base := base) (G := G) (T := R_2 n) (k := 2 + 1 * n + 0) F23  CT (.cons ⟨L_Kind, p12, _, _, _, _, by rw [e_Kind]; exact ⟨a12, f12, k12⟩, (O12.mono (by omega)), B12, .nil, fun _ => .nil⟩ (.cons ⟨L_Word, p14, _, _, _, _, by rw [e_Word]; exact ⟨a14, f14, k14⟩, (O14.mono (by omega)), B14, .nil, fun _ => .nil⟩ (.cons ⟨L_Run, p15, _, _, _, _, by rw [e_Run]; exact ⟨a15, f15, k15⟩, (O15.mono (by omega)), B15, .nil, fun _ => .nil⟩ (.cons ⟨L_Row, p18, _, _, _, _, by rw [e_Row]; exact ⟨a18, f18, k18⟩, (h2.mono (by omega)), B18, .nil, fun _ => .nil⟩ (.cons ⟨L_Pick, p20, _, _, _, _, by rw [e_Pick]; exact ⟨a20, f20, k20⟩, (h4.mono (by omega)), B20, .nil, fun _ => .nil⟩ (.cons ⟨L_Many, p23, _, _, _, _, by rw [e_Many]; exact ⟨a23, f23, k23⟩, (h7.mono (by omega)), B23, .nil, fun _ => .nil⟩ .nil)))))) (GFn.of (PySem.W.mg_of X N a13) F13.kp (O13.mono (by omega)) B13)).mono (by omega))⟩
  have O16 := (S2 20).1
  have O17 := (S2 20).2.1
  have O18 := (S2 20).2.2.1
  have O19 := (S2 20).2.2.2.1
  have O20 := (S2 20).2.2.2.2.1
  have O21 := (S2 20).2.2.2.2.2.1
  have O22 := (S2 20).2.2.2.2.2.2.1
  have O23 := (S2 20).2.2.2.2.2.2.2
  have F24 := fun_mk (st := st_Laying_init) l24 c24 k24
  have O24 := ok_Laying_init (P := l.prog) (w := w) (mg := mg) (base := base) (G := G) (k := 0) F24  CT
  have F25 := fun_mk (st := st_Laying_lay) l25 c25 k25
  have O25 := ok_Laying_lay (P := l.prog) (w := w) (mg := mg) (base := base) (G := G) (k := 0) F25 m_len CT
  have F26 := fun_mk (st := st_Laying_lay_signs) l26 c26 k26
  have B25 := F25.binds (ps := ["self", "row"]) fun _ _ _ _ _ _ us hl => match us, hl with | [_, _], _ => rfl
  have O26 := ok_Laying_lay_signs (P := l.prog) (w := w) (mg := mg) (base := base) (G := G) (k := 1) F26  (.cons ⟨L_Laying, p25, _, _, _, _, by rw [e_Laying]; exact ⟨a25, f25, k25⟩, (O25.mono (by omega)), B25, .nil, fun _ => .nil⟩ .nil)
  have F27 := fun_mk (st := st_Laying_lay_run) l27 c27 k27
  have O27 := ok_Laying_lay_run (P := l.prog) (w := w) (mg := mg) (base := base) (G := G) (k := 1) F27 m_range (.cons ⟨L_Laying, p25, _, _, _, _, by rw [e_Laying]; exact ⟨a25, f25, k25⟩, (O25.mono (by omega)), B25, .nil, fun _ => .nil⟩ .nil) CT
  have n_Word : mg "Word" = some (.ref (G.cls "Word")) := by rw [e_Word]; exact PySem.W.mg_of X N A1
  have i_Word : IsiG G mg "Word" (.ref (G.cls "Word")) (.ref (G.cls "Word")) is_Word := by
    rw [e_Word]
    exact ⟨.own _, isiG_of (noB_ok ic1 ty1) (fm_cons ⟨by rw [show G.cls "Kind" = q0 from e_Kind]; exact kit_own ic1 ty1 s1_1 s0_1, Z_Kind⟩ (fm_cons ⟨by rw [show G.cls "Word" = q1 from e_Word]; exact kit_own ic1 ty1 s1_1 s1_1, Z_Word⟩ (fm_cons ⟨by rw [show G.cls "Run" = q2 from e_Run]; exact kit_own ic1 ty1 s1_1 s2_1, Z_Run⟩ (fm_cons ⟨by rw [show G.cls "Row" = q3 from e_Row]; exact kit_own ic1 ty1 s1_1 s3_1, Z_Row⟩ (fm_cons ⟨by rw [show G.cls "Pick" = q4 from e_Pick]; exact kit_own ic1 ty1 s1_1 s4_1, Z_Pick⟩ (fm_cons ⟨by rw [show G.cls "Many" = q5 from e_Many]; exact kit_own ic1 ty1 s1_1 s5_1, Z_Many⟩ (fm_cons ⟨by rw [show G.cls "Laying" = q6 from e_Laying]; exact kit_own ic1 ty1 s1_1 s6_1, Z_Laying⟩ fm_nil))))))) fm_nil⟩
  have n_Run : mg "Run" = some (.ref (G.cls "Run")) := by rw [e_Run]; exact PySem.W.mg_of X N A2
  have i_Run : IsiG G mg "Run" (.ref (G.cls "Run")) (.ref (G.cls "Run")) is_Run := by
    rw [e_Run]
    exact ⟨.own _, isiG_of (noB_ok ic2 ty2) (fm_cons ⟨by rw [show G.cls "Kind" = q0 from e_Kind]; exact kit_own ic2 ty2 s2_2 s0_2, Z_Kind⟩ (fm_cons ⟨by rw [show G.cls "Word" = q1 from e_Word]; exact kit_own ic2 ty2 s2_2 s1_2, Z_Word⟩ (fm_cons ⟨by rw [show G.cls "Run" = q2 from e_Run]; exact kit_own ic2 ty2 s2_2 s2_2, Z_Run⟩ (fm_cons ⟨by rw [show G.cls "Row" = q3 from e_Row]; exact kit_own ic2 ty2 s2_2 s3_2, Z_Row⟩ (fm_cons ⟨by rw [show G.cls "Pick" = q4 from e_Pick]; exact kit_own ic2 ty2 s2_2 s4_2, Z_Pick⟩ (fm_cons ⟨by rw [show G.cls "Many" = q5 from e_Many]; exact kit_own ic2 ty2 s2_2 s5_2, Z_Many⟩ (fm_cons ⟨by rw [show G.cls "Laying" = q6 from e_Laying]; exact kit_own ic2 ty2 s2_2 s6_2, Z_Laying⟩ fm_nil))))))) fm_nil⟩
  have n_Row : mg "Row" = some (.ref (G.cls "Row")) := by rw [e_Row]; exact PySem.W.mg_of X N A3
  have i_Row : IsiG G mg "Row" (.ref (G.cls "Row")) (.ref (G.cls "Row")) is_Row := by
    rw [e_Row]
    exact ⟨.own _, isiG_of (noB_ok ic3 ty3) (fm_cons ⟨by rw [show G.cls "Kind" = q0 from e_Kind]; exact kit_own ic3 ty3 s3_3 s0_3, Z_Kind⟩ (fm_cons ⟨by rw [show G.cls "Word" = q1 from e_Word]; exact kit_own ic3 ty3 s3_3 s1_3, Z_Word⟩ (fm_cons ⟨by rw [show G.cls "Run" = q2 from e_Run]; exact kit_own ic3 ty3 s3_3 s2_3, Z_Run⟩ (fm_cons ⟨by rw [show G.cls "Row" = q3 from e_Row]; exact kit_own ic3 ty3 s3_3 s3_3, Z_Row⟩ (fm_cons ⟨by rw [show G.cls "Pick" = q4 from e_Pick]; exact kit_own ic3 ty3 s3_3 s4_3, Z_Pick⟩ (fm_cons ⟨by rw [show G.cls "Many" = q5 from e_Many]; exact kit_own ic3 ty3 s3_3 s5_3, Z_Many⟩ (fm_cons ⟨by rw [show G.cls "Laying" = q6 from e_Laying]; exact kit_own ic3 ty3 s3_3 s6_3, Z_Laying⟩ fm_nil))))))) fm_nil⟩
  have n_Pick : mg "Pick" = some (.ref (G.cls "Pick")) := by rw [e_Pick]; exact PySem.W.mg_of X N A4
  have i_Pick : IsiG G mg "Pick" (.ref (G.cls "Pick")) (.ref (G.cls "Pick")) is_Pick := by
    rw [e_Pick]
    exact ⟨.own _, isiG_of (noB_ok ic4 ty4) (fm_cons ⟨by rw [show G.cls "Kind" = q0 from e_Kind]; exact kit_own ic4 ty4 s4_4 s0_4, Z_Kind⟩ (fm_cons ⟨by rw [show G.cls "Word" = q1 from e_Word]; exact kit_own ic4 ty4 s4_4 s1_4, Z_Word⟩ (fm_cons ⟨by rw [show G.cls "Run" = q2 from e_Run]; exact kit_own ic4 ty4 s4_4 s2_4, Z_Run⟩ (fm_cons ⟨by rw [show G.cls "Row" = q3 from e_Row]; exact kit_own ic4 ty4 s4_4 s3_4, Z_Row⟩ (fm_cons ⟨by rw [show G.cls "Pick" = q4 from e_Pick]; exact kit_own ic4 ty4 s4_4 s4_4, Z_Pick⟩ (fm_cons ⟨by rw [show G.cls "Many" = q5 from e_Many]; exact kit_own ic4 ty4 s4_4 s5_4, Z_Many⟩ (fm_cons ⟨by rw [show G.cls "Laying" = q6 from e_Laying]; exact kit_own ic4 ty4 s4_4 s6_4, Z_Laying⟩ fm_nil))))))) fm_nil⟩
  have n_Many : mg "Many" = some (.ref (G.cls "Many")) := by rw [e_Many]; exact PySem.W.mg_of X N A5
  have i_Many : IsiG G mg "Many" (.ref (G.cls "Many")) (.ref (G.cls "Many")) is_Many := by
    rw [e_Many]
    exact ⟨.own _, isiG_of (noB_ok ic5 ty5) (fm_cons ⟨by rw [show G.cls "Kind" = q0 from e_Kind]; exact kit_own ic5 ty5 s5_5 s0_5, Z_Kind⟩ (fm_cons ⟨by rw [show G.cls "Word" = q1 from e_Word]; exact kit_own ic5 ty5 s5_5 s1_5, Z_Word⟩ (fm_cons ⟨by rw [show G.cls "Run" = q2 from e_Run]; exact kit_own ic5 ty5 s5_5 s2_5, Z_Run⟩ (fm_cons ⟨by rw [show G.cls "Row" = q3 from e_Row]; exact kit_own ic5 ty5 s5_5 s3_5, Z_Row⟩ (fm_cons ⟨by rw [show G.cls "Pick" = q4 from e_Pick]; exact kit_own ic5 ty5 s5_5 s4_5, Z_Pick⟩ (fm_cons ⟨by rw [show G.cls "Many" = q5 from e_Many]; exact kit_own ic5 ty5 s5_5 s5_5, Z_Many⟩ (fm_cons ⟨by rw [show G.cls "Laying" = q6 from e_Laying]; exact kit_own ic5 ty5 s5_5 s6_5, Z_Laying⟩ fm_nil))))))) fm_nil⟩
  have F28 := fun_mk (st := st_Laying_lay_kind) l28 c28 k28
  have B26 := F26.binds (ps := ["self", "text"]) fun _ _ _ _ _ _ us hl => match us, hl with | [_, _], _ => rfl
  have B27 := F27.binds (ps := ["self", "kind"]) fun _ _ _ _ _ _ us hl => match us, hl with | [_, _], _ => rfl
  have B28 := F28.binds (ps := ["self", "kind"]) fun _ _ _ _ _ _ us hl => match us, hl with | [_, _], _ => rfl
  have F29 := fun_mk (st := st_Laying_lay_pick) l29 c29 k29
  have B29 := F29.binds (ps := ["self", "parts"]) fun _ _ _ _ _ _ us hl => match us, hl with | [_, _], _ => rfl
  have F30 := fun_mk (st := st_Laying_lay_many) l30 c30 k30
  have B30 := F30.binds (ps := ["self", "kind"]) fun _ _ _ _ _ _ us hl => match us, hl with | [_, _], _ => rfl
  have S3 : ∀ n : Nat, FnOk l.prog w G.K mg base (L2.CX l.prog w) (2 + 1 * n) p28 (PySem.W.fnOf "lay_kind" "Laying.lay_kind" (defArgs st_Laying_lay_kind) (defBody st_Laying_lay_kind) (defScope st_Laying_lay_kind) .none kV28 dc28 pm28 an28 cd28 ct28) ["self", "kind"] (spF G (R_3 n 0)) ∧ FnOk l.prog w G.K mg base (L2.CX l.prog w) (2 + 1 * n) p29 (PySem.W.fnOf "lay_pick" "Laying.lay_pick" (defArgs st_Laying_lay_pick) (defBody st_Laying_lay_pick) (defScope st_Laying_lay_pick) .none kV29 dc29 pm29 an29 cd29 ct29) ["self", "parts"] (spF G (R_3 n 1)) ∧ FnOk l.prog w G.K mg base (L2.CX l.prog w) (2 + 1 * n) p30 (PySem.W.fnOf "lay_many" "Laying.lay_many" (defArgs st_Laying_lay_many) (defBody st_Laying_lay_many) (defScope st_Laying_lay_many) .none kV30 dc30 pm30 an30 cd30 ct30) ["self", "kind"] (spF G (R_3 n 2)) := by
    intro n; induction n with
    | zero => exact ⟨fnok_none, fnok_none, fnok_none⟩
    | succ n ih =>
      obtain ⟨h0, h1, h2⟩ := ih
      exact ⟨((ok_Laying_lay_kind (P := l.prog) (w := w) (mg := mg) (base := base) (G := G) (T := R_3 n) (k := 2 + 1 * n + 0) F28 m_isinstance i_Word n_Word (.cons ⟨L_Laying, p26, _, _, _, _, by rw [e_Laying]; exact ⟨a26, f26, k26⟩, (O26.mono (by omega)), B26, .nil, fun _ => .nil⟩ .nil) CT i_Run n_Run (.cons ⟨L_Laying, p27, _, _, _, _, by rw [e_Laying]; exact ⟨a27, f27, k27⟩, (O27.mono (by omega)), B27, .nil, fun _ => .nil⟩ .nil) i_Row n_Row (.cons ⟨L_Laying, p28, _, _, _, _, by rw [e_Laying]; exact ⟨a28, f28, k28⟩, (h0.mono (by omega)), B28, .nil, fun _ => .nil⟩ .nil) i_Pick n_Pick (.cons ⟨L_Laying, p29, _, _, _, _, by rw [e_Laying]; exact ⟨a29, f29, k29⟩, (h1.mono (by omega)), B29, .nil, fun _ => .nil⟩ .nil) i_Many n_Many (.cons ⟨L_Laying, p30, _, _, _, _, by rw [e_Laying]; exact ⟨a30, f30, k30⟩, (h2.mono (by omega)), B30, .nil, fun _ => .nil⟩ .nil)).mono (by omega)),
        ((ok_Laying_lay_pick (P := l.prog) (w := w) (mg := mg) (base := base) (G := G) (T := R_3 n) (k := 2 + 1 * n + 0) F29 m_enumerate m_len (.cons ⟨L_Laying, p25, _, _, _, _, by rw [e_Laying]; exact ⟨a25, f25, k25⟩, (O25.mono (by omega)), B25, .nil, fun _ => .nil⟩ .nil) (.cons ⟨L_Laying, p28, _, _, _, _, by rw [e_Laying]; exact ⟨a28, f28, k28⟩, (h0.mono (by omega)), B28, .nil, fun _ => .nil⟩ .nil) CT).mono (by omega)),
        ((ok_Laying_lay_many (P := l.prog) (w := w) (mg := mg) (base := base) (G := G) (T := R_3 n) (k := 2 + 1 * n + 0) F30  (.cons ⟨L_Laying, p25, _, _, _, _, by rw [e_Laying]; exact ⟨a25, f25, k25⟩, (O25.mono (by omega)), B25, .nil, fun _ => .nil⟩ .nil) (.cons ⟨L_Laying, p28, _, _, _, _, by rw [e_Laying]; exact ⟨a28, f28, k28⟩, (h0.mono (by omega)), B28, .nil, fun _ => .nil⟩ .nil) CT (.cons ⟨L_Laying, p26, _, _, _, _, by rw [e_Laying]; exact ⟨a26, f26, k26⟩, (O26.mono (by omega)), B26, .nil, fun _ => .nil⟩ .nil)).mono (by omega))⟩
  have O28 := (S3 20).1
  have O29 := (S3 20).2.1
  have O30 := (S3 20).2.2
  have F31 := fun_mk (st := st_rows_of) l31 c31 k31
  have B24 := F24.binds (ps := ["self"]) fun _ _ _ _ _ _ us hl => match us, hl with | [_], _ => rfl
  have O31 := ok_rows_of (P := l.prog) (w := w) (mg := mg) (base := base) (G := G) (k := 22) F31  (KGn.mk ⟨p24, _, _, _, _, _, (by omega), by rw [e_Laying]; exact PySem.W.mg_of X N A6, by rw [e_Laying]; exact ⟨mk6, a24, f24, kc6⟩, (O24), B24, .nil, fun _ => .nil⟩) (.cons ⟨L_Laying, p28, _, _, _, _, by rw [e_Laying]; exact ⟨a28, f28, k28⟩, (O28.mono (by omega)), B28, .nil, fun _ => .nil⟩ .nil) (.cons ⟨L_Laying, p25, _, _, _, _, by rw [e_Laying]; exact ⟨a25, f25, k25⟩, (O25.mono (by omega)), B25, .nil, fun _ => .nil⟩ .nil) CT
  have F32 := fun_mk (st := st_L_pool) l32 c32 k32
  have O32 := ok_L_pool (P := l.prog) (w := w) (mg := mg) (base := base) (G := G) (k := 1) F32 m_range (GFn.of (PySem.W.mg_of X N a0) F0.kp (O0.mono (by omega)) B0)
  have i_int : IsiG G mg "int" (.ty "int") (.type "int") is_int := ⟨.ty _, isiG_of btB_ok fm_nil fm_nil⟩
  have i_bool : IsiG G mg "bool" (.ty "bool") (.type "bool") is_bool := ⟨.ty _, isiG_of btB_ok fm_nil fm_nil⟩
  have F33 := fun_mk (st := st_L_is_number) l33 c33 k33
  have O33 := ok_L_is_number (P := l.prog) (w := w) (mg := mg) (base := base) (G := G) (k := 0) F33 m_bool m_int m_isinstance i_int i_bool
  have i_tuple : IsiG G mg "tuple" (.ty "tuple") (.type "tuple") is_tuple := ⟨.ty _, isiG_of btB_ok fm_nil fm_nil⟩
  have i_str : IsiG G mg "str" (.ty "str") (.type "str") is_str := ⟨.ty _, isiG_of btB_ok fm_nil fm_nil⟩
  have F34 := fun_mk (st := st_L_is_row) l34 c34 k34
  have B33 := F33.binds (ps := ["_law_thing", "_law_many"]) fun _ _ _ _ _ _ us hl => match us, hl with | [_, _], _ => rfl
  have O34 := ok_L_is_row (P := l.prog) (w := w) (mg := mg) (base := base) (G := G) (k := 1) F34 m_isinstance m_len m_str m_tuple i_tuple i_str (GFn.of (PySem.W.mg_of X N a33) F33.kp (O33.mono (by omega)) B33)
  have i_list : IsiG G mg "list" (.ty "list") (.type "list") is_list := ⟨.ty _, isiG_of btB_ok fm_nil fm_nil⟩
  have F35 := fun_mk (st := st_law) l35 c35 k35
  have B32 := F32.binds (ps := ["_law_script", "_law_at"]) fun _ _ _ _ _ _ us hl => match us, hl with | [_, _], _ => rfl
  have B31 := F31.binds (ps := ["kind"]) fun _ _ _ _ _ _ us hl => match us, hl with | [_], _ => rfl
  have B34 := F34.binds (ps := ["_law_row", "_law_many"]) fun _ _ _ _ _ _ us hl => match us, hl with | [_, _], _ => rfl
  have O35 := ok_law (P := l.prog) (w := w) (mg := mg) (base := base) (G := G) (k := 23) F35 m_all m_isinstance m_len m_list m_range (GFn.of (PySem.W.mg_of X N a5) F5.kp (O5.mono (by omega)) B5) (GFn.of (PySem.W.mg_of X N a0) F0.kp (O0.mono (by omega)) B0) (GFn.of (PySem.W.mg_of X N a32) F32.kp (O32.mono (by omega)) B32) (GFn.of (PySem.W.mg_of X N a11) F11.kp (O11.mono (by omega)) B11) (.cons ⟨L_Kind, p12, _, _, _, _, by rw [e_Kind]; exact ⟨a12, f12, k12⟩, (O12.mono (by omega)), B12, .nil, fun _ => .nil⟩ (.cons ⟨L_Word, p14, _, _, _, _, by rw [e_Word]; exact ⟨a14, f14, k14⟩, (O14.mono (by omega)), B14, .nil, fun _ => .nil⟩ (.cons ⟨L_Run, p15, _, _, _, _, by rw [e_Run]; exact ⟨a15, f15, k15⟩, (O15.mono (by omega)), B15, .nil, fun _ => .nil⟩ (.cons ⟨L_Row, p18, _, _, _, _, by rw [e_Row]; exact ⟨a18, f18, k18⟩, (O18.mono (by omega)), B18, .nil, fun _ => .nil⟩ (.cons ⟨L_Pick, p20, _, _, _, _, by rw [e_Pick]; exact ⟨a20, f20, k20⟩, (O20.mono (by omega)), B20, .nil, fun _ => .nil⟩ (.cons ⟨L_Many, p23, _, _, _, _, by rw [e_Many]; exact ⟨a23, f23, k23⟩, (O23.mono (by omega)), B23, .nil, fun _ => .nil⟩ .nil)))))) (GFn.of (PySem.W.mg_of X N a31) F31.kp (O31.mono (by omega)) B31) i_list (GFn.of (PySem.W.mg_of X N a34) F34.kp (O34.mono (by omega)) B34)
  exact fnok_L O35

end Y
set_option maxRecDepth 100000 in
set_option maxHeartbeats 0 in
theorem PySem.Challenge.cw_toandfro_k11_rows_of_kinds_holds : PySem.Challenge.rw_toandfro_k11_rows_of_kinds.Holds := by
  w_on; o_law; k_head; (case hw => w_witness2)
  k_fill
  refine L2.walk_of (l := PySem.Challenge.rw_toandfro_k11_rows_of_kinds) (n := 63) (k := 24) (x := "_law_script") (CX := fun w => L2.CX (PySem.Challenge.rw_toandfro_k11_rows_of_kinds).prog w) (sp := fun w => Z.spL _ Y.f_law) rfl (by decide) rfl ⟨rfl, by decide, by decide⟩ (fun w h Y => PySem.W.kIn_of Y) ?F (fun w H a ns hl hO hS G e => Z.law_sp hO (by rw [e]; exact hS) (Y.law_true ns hl)) (fun _ _ _ _ _ h => Z.cx_never h)
  case F =>
    intro w mg fa h KX N hmg
    refine' Y.all_mk KX N hmg ?A0 ?A1 ?A2 ?A3 ?A4 ?A5 ?A6 ?a0 ?l0 ?c0 ?k0 ?a1 ?l1 ?c1 ?k1 ?a2 ?l2 ?c2 ?k2 ?a3 ?l3 ?c3 ?k3 ?a4 ?l4 ?c4 ?k4 ?a5 ?l5 ?c5 ?k5 ?a6 ?l6 ?t6 ?v6 ?c6 ?k6 ?f6 ?a7 ?l7 ?c7 ?k7 ?f7 ?a8 ?l8 ?c8 ?k8 ?f8 ?a9 ?l9 ?t9 ?v9 ?c9 ?k9 ?f9 ?a10 ?l10 ?c10 ?k10 ?f10 ?a11 ?l11 ?c11 ?k11 ?a12 ?l12 ?c12 ?k12 ?f12 ?a13 ?l13 ?c13 ?k13 ?a14 ?l14 ?c14 ?k14 ?f14 ?a15 ?l15 ?c15 ?k15 ?f15 ?a16 ?l16 ?c16 ?k16 ?f16 ?a17 ?l17 ?c17 ?k17 ?f17 ?a18 ?l18 ?c18 ?k18 ?f18 ?a19 ?l19 ?c19 ?k19 ?f19 ?a20 ?l20 ?c20 ?k20 ?f20 ?a21 ?l21 ?c21 ?k21 ?f21 ?a22 ?l22 ?c22 ?k22 ?f22 ?a23 ?l23 ?c23 ?k23 ?f23 ?a24 ?l24 ?c24 ?k24 ?f24 ?a25 ?l25 ?c25 ?k25 ?f25 ?a26 ?l26 ?c26 ?k26 ?f26 ?a27 ?l27 ?c27 ?k27 ?f27 ?a28 ?l28 ?c28 ?k28 ?f28 ?a29 ?l29 ?c29 ?k29 ?f29 ?a30 ?l30 ?c30 ?k30 ?f30 ?a31 ?l31 ?c31 ?k31 ?a32 ?l32 ?c32 ?k32 ?a33 ?l33 ?c33 ?k33 ?a34 ?l34 ?c34 ?k34 ?a35 ?l35 ?c35 ?k35 ?z_all ?z_bool ?z_enumerate ?z_int ?z_isinstance ?z_len ?z_list ?z_max ?z_range ?z_str ?z_tuple ?pg6 ?hd6 ?po6 ?sa6 ?ha6 ?hm6 ?hn0 ?ht0 ?nf6_heap ?pg5 ?hd5 ?po5 ?sa5 ?ha5 ?hm5 ?nf5_between ?nf5_part ?pg4 ?hd4 ?po4 ?sa4 ?ha4 ?hm4 ?nf4_parts ?pg3 ?hd3 ?po3 ?sa3 ?ha3 ?hm3 ?nf3_parts ?pg2 ?hd2 ?po2 ?sa2 ?ha2 ?hm2 ?nf2_most ?nf2_least ?nf2_signs ?pg1 ?hd1 ?po1 ?sa1 ?ha1 ?hm1 ?nf1_text ?pg0 ?hd0 ?po0 ?sa0 ?ha0 ?hm0 ?mk1 ?kc1 ?mk2 ?kc2 ?mk3 ?kc3 ?mk4 ?kc4 ?mk5 ?kc5 ?mt5_item ?mt2_item ?mt1_item ?mt5_alt ?mt3_alt ?mt2_alt ?mt1_alt ?ic1 ?ty1 ?s1_1 ?s6_1 ?s5_1 ?s4_1 ?s3_1 ?s2_1 ?s0_1 ?ic2 ?ty2 ?s2_2 ?s6_2 ?s5_2 ?s4_2 ?s3_2 ?s1_2 ?s0_2 ?ic3 ?ty3 ?s3_3 ?s6_3 ?s5_3 ?s4_3 ?s2_3 ?s1_3 ?s0_3 ?ic4 ?ty4 ?s4_4 ?s6_4 ?s5_4 ?s3_4 ?s2_4 ?s1_4 ?s0_4 ?ic5 ?ty5 ?s5_5 ?s6_5 ?s4_5 ?s3_5 ?s2_5 ?s1_5 ?s0_5 ?mk6 ?kc6
    (case A0 => k_is); (case A1 => k_is); (case A2 => k_is); (case A3 => k_is)
    (case A4 => k_is); (case A5 => k_is); (case A6 => k_is); (case a0 => k_is)
    (case l0 => k_is); (case c0 => k_is); (case k0 => k_is); (case a1 => k_is)
    (case l1 => k_is); (case c1 => k_is); (case k1 => k_is); (case a2 => k_is)
    (case l2 => k_is); (case c2 => k_is); (case k2 => k_is); (case a3 => k_is)
    (case l3 => k_is); (case c3 => k_is); (case k3 => k_is); (case a4 => k_is)
    (case l4 => k_is); (case c4 => k_is); (case k4 => k_is); (case a5 => k_is)
    (case l5 => k_is); (case c5 => k_is); (case k5 => k_is); (case a6 => k_is)
    (case l6 => k_is); (case t6 => k_is); (case v6 => exact (.cons ⟨_, rfl⟩ .nil)); (case c6 => k_is)
    (case k6 => k_is); (case f6 => k_is); (case a7 => k_is); (case l7 => k_is)
    (case c7 => k_is); (case k7 => k_is); (case f7 => k_is); (case a8 => k_is)
    (case l8 => k_is); (case c8 => k_is); (case k8 => k_is); (case f8 => k_is)
    (case a9 => k_is); (case l9 => k_is); (case t9 => k_is); (case v9 => exact (.cons rfl .nil))
    (case c9 => k_is); (case k9 => k_is); (case f9 => k_is); (case a10 => k_is)
    (case l10 => k_is); (case c10 => k_is); (case k10 => k_is); (case f10 => k_is)
    (case a11 => k_is); (case l11 => k_is); (case c11 => k_is); (case k11 => k_is)
    (case a12 => k_is); (case l12 => k_is); (case c12 => k_is); (case k12 => k_is)
    (case f12 => k_is); (case a13 => k_is); (case l13 => k_is); (case c13 => k_is)
    (case k13 => k_is); (case a14 => k_is); (case l14 => k_is); (case c14 => k_is)
    (case k14 => k_is); (case f14 => k_is); (case a15 => k_is); (case l15 => k_is)
    (case c15 => k_is); (case k15 => k_is); (case f15 => k_is); (case a16 => k_is)
    (case l16 => k_is); (case c16 => k_is); (case k16 => k_is); (case f16 => k_is)
    (case a17 => k_is); (case l17 => k_is); (case c17 => k_is); (case k17 => k_is)
    (case f17 => k_is); (case a18 => k_is); (case l18 => k_is); (case c18 => k_is)
    (case k18 => k_is); (case f18 => k_is); (case a19 => k_is); (case l19 => k_is)
    (case c19 => k_is); (case k19 => k_is); (case f19 => k_is); (case a20 => k_is)
    (case l20 => k_is); (case c20 => k_is); (case k20 => k_is); (case f20 => k_is)
    (case a21 => k_is); (case l21 => k_is); (case c21 => k_is); (case k21 => k_is)
    (case f21 => k_is); (case a22 => k_is); (case l22 => k_is); (case c22 => k_is)
    (case k22 => k_is); (case f22 => k_is); (case a23 => k_is); (case l23 => k_is)
    (case c23 => k_is); (case k23 => k_is); (case f23 => k_is); (case a24 => k_is)
    (case l24 => k_is); (case c24 => k_is); (case k24 => k_is); (case f24 => k_is)
    (case a25 => k_is); (case l25 => k_is); (case c25 => k_is); (case k25 => k_is)
    (case f25 => k_is); (case a26 => k_is); (case l26 => k_is); (case c26 => k_is)
    (case k26 => k_is); (case f26 => k_is); (case a27 => k_is); (case l27 => k_is)
    (case c27 => k_is); (case k27 => k_is); (case f27 => k_is); (case a28 => k_is)
    (case l28 => k_is); (case c28 => k_is); (case k28 => k_is); (case f28 => k_is)
    (case a29 => k_is); (case l29 => k_is); (case c29 => k_is); (case k29 => k_is)
    (case f29 => k_is); (case a30 => k_is); (case l30 => k_is); (case c30 => k_is)
    (case k30 => k_is); (case f30 => k_is); (case a31 => k_is); (case l31 => k_is)
    (case c31 => k_is); (case k31 => k_is); (case a32 => k_is); (case l32 => k_is)
    (case c32 => k_is); (case k32 => k_is); (case a33 => k_is); (case l33 => k_is)
    (case c33 => k_is); (case k33 => k_is); (case a34 => k_is); (case l34 => k_is)
    (case c34 => k_is); (case k34 => k_is); (case a35 => k_is); (case l35 => k_is)
    (case c35 => k_is); (case k35 => k_is); (case z_all => k_is); (case z_bool => k_is)
    (case z_enumerate => k_is); (case z_int => k_is); (case z_isinstance => k_is); (case z_len => k_is)
    (case z_list => k_is); (case z_max => k_is); (case z_range => k_is); (case z_str => k_is)
    (case z_tuple => k_is); (case pg6 => k_is); (case hd6 => k_is); (case po6 => k_is)
    (case sa6 => k_is); (case ha6 => k_is); (case hm6 => k_is); (case hn0 => k_is)
    (case ht0 => k_is); (case nf6_heap => k_is); (case pg5 => k_is); (case hd5 => k_is)
    (case po5 => k_is); (case sa5 => k_is); (case ha5 => k_is); (case hm5 => k_is)
    (case nf5_between => k_is); (case nf5_part => k_is); (case pg4 => k_is); (case hd4 => k_is)
    (case po4 => k_is); (case sa4 => k_is); (case ha4 => k_is); (case hm4 => k_is)
    (case nf4_parts => k_is); (case pg3 => k_is); (case hd3 => k_is); (case po3 => k_is)
    (case sa3 => k_is); (case ha3 => k_is); (case hm3 => k_is); (case nf3_parts => k_is)
    (case pg2 => k_is); (case hd2 => k_is); (case po2 => k_is); (case sa2 => k_is)
    (case ha2 => k_is); (case hm2 => k_is); (case nf2_most => k_is); (case nf2_least => k_is)
    (case nf2_signs => k_is); (case pg1 => k_is); (case hd1 => k_is); (case po1 => k_is)
    (case sa1 => k_is); (case ha1 => k_is); (case hm1 => k_is); (case nf1_text => k_is)
    (case pg0 => k_is); (case hd0 => k_is); (case po0 => k_is); (case sa0 => k_is)
    (case ha0 => k_is); (case hm0 => k_is); (case mk1 => k_is); (case kc1 => k_is)
    (case mk2 => k_is); (case kc2 => k_is); (case mk3 => k_is); (case kc3 => k_is)
    (case mk4 => k_is); (case kc4 => k_is); (case mk5 => k_is); (case kc5 => k_is)
    (case mt5_item => k_is); (case mt2_item => k_is); (case mt1_item => k_is); (case mt5_alt => k_is)
    (case mt3_alt => k_is); (case mt2_alt => k_is); (case mt1_alt => k_is); (case ic1 => k_is)
    (case ty1 => k_is); (case s1_1 => k_is); (case s6_1 => k_is); (case s5_1 => k_is)
    (case s4_1 => k_is); (case s3_1 => k_is); (case s2_1 => k_is); (case s0_1 => k_is)
    (case ic2 => k_is); (case ty2 => k_is); (case s2_2 => k_is); (case s6_2 => k_is)
    (case s5_2 => k_is); (case s4_2 => k_is); (case s3_2 => k_is); (case s1_2 => k_is)
    (case s0_2 => k_is); (case ic3 => k_is); (case ty3 => k_is); (case s3_3 => k_is)
    (case s6_3 => k_is); (case s5_3 => k_is); (case s4_3 => k_is); (case s2_3 => k_is)
    (case s1_3 => k_is); (case s0_3 => k_is); (case ic4 => k_is); (case ty4 => k_is)
    (case s4_4 => k_is); (case s6_4 => k_is); (case s5_4 => k_is); (case s3_4 => k_is)
    (case s2_4 => k_is); (case s1_4 => k_is); (case s0_4 => k_is); (case ic5 => k_is)
    (case ty5 => k_is); (case s5_5 => k_is); (case s6_5 => k_is); (case s4_5 => k_is)
    (case s3_5 => k_is); (case s2_5 => k_is); (case s1_5 => k_is); (case s0_5 => k_is)
    (case mk6 => k_is); (case kc6 => k_is)
