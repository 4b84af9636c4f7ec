import PyProof.Rows.All
import Wide.All
import OpenK.AllK
import Wide.FinOn
import PySem.Challenge.RW_keencone_k60_texts_of_records
import HandS.ForMost
import HandS.Exc
import HandS.Deep
import HandS.TupAny
import HandS.Conv
import HandS.Wide
import HandS.Flow
import HandS.Style
import HandS.WordsExc
import HandS.Defaults
import KE.GoesNew
import KE.GoesEnum
import KE.GoesMore
import HandS.IsInst
import HandS.Text
import PyProof.Rows.SortShellAny
import HandS.Ends
import HandS.HeadEnd
import HandS.More
import HandS.WordsDict
import PyProof.ReprRoads
import HandS.ExcInit
import HandS.ExcValue
import HandS.ExcField
import HandS.ExcIs
import HandS.ClsMeth
import HandS.HeadHook2
import HandS.Property
import HandS.MakeKw
import PyProof.InstNe
import OpenK.KOps
import HandS.MakeKwOnly
import PyProof.ReprBulk
import PyProof.StrLawsRepr
import PyProof.Rows.RegStrFacts
import PyProof.StrLawsTight
import PyProof.Rows.StrItems
import PyProof.Rows.StrSplitAre
import HandS.Star
import HandS.TryOnly
import KE.KUnpackStar
import KE.KStateDown
import HandS.Head0
import HandS.Head1
import HandS.Head2
set_option Elab.async false
set_option linter.all false
set_option maxRecDepth 100000
set_option maxHeartbeats 4000000
/-! DtA: plain data over the hand layer; worlds, steps, slots. -/
namespace Dt
open PySem L2

/-- plain data -/
inductive D where
  | non
  | bl (b : Bool)
  | int (i : Int)
  | str (s : Str)
  | lst (xs : List D)
  | tup (xs : List D)
  | dct (kvs : List (Key × D))
  | ins (C : Addr) (fs : List (Str × D))
  | scr (ns : List Int)
  | exc (C : Addr) (fs : List (Str × D))
  | obj (v : V)

def Le (I H : Hp) : Prop := ∀ a o, I a = some o → H a = some o
theorem Le.refl (I : Hp) : Le I I := fun _ _ h => h
theorem Le.trans {A B C : Hp} (x : Le A B) (y : Le B C) : Le A C := fun a o h => y a o (x a o h)
theorem Le.free {I H : Hp} (x : Le I H) {a : Addr} (h : H a = none) : I a = none := by
  cases q : I a with
  | none => rfl
  | some o =>
    rw [x a o q] at h
    cases h
theorem Le.upd {I H : Hp} (x : Le I H) {p : Addr} {o : HO} : Le (upd I p o) (upd H p o) := fun a u e => by
  by_cases q : a = p
  · subst q
    rw [upd_same] at e ⊢
    exact e
  · rw [upd_ne q] at e ⊢
    exact x a u e
theorem Le.new {I : Hp} {p : Addr} {o : HO} (h : I p = none) : Le I (L2.upd I p o) := fun a u e => by
  rw [upd_ne (ne_of_none e h)]
  exact e
theorem Le.rd {I H : Hp} (x : Le I H) {a : Addr} {u : HO} (h : Rd I a u) : Rd H a u := by
  rcases h with h | ⟨o, h⟩
  · exact .inl (x _ _ h)
  · exact .inr ⟨o, x _ _ h⟩
theorem Le.sqL {K : PySem.W.Frag} {I H : Hp} (x : Le I H) {a : Addr} {vs : List V} (h : SqL K I a vs) : SqL K H a vs := by
  rcases h with h | h
  · exact .inl (x.rd h)
  · exact .inr h
theorem Le.sqT {K : PySem.W.Frag} {I H : Hp} (x : Le I H) {a : Addr} {vs : List V} (h : SqT K I a vs) : SqT K H a vs := by
  rcases h with h | h
  · exact .inl (x.rd h)
  · exact .inr h

/-- an error of the class at C stands at a, its dict at d -/
def ExcAt (hp : Heap) (a C : Addr) (d : Option Addr) : Prop := ∃ (oe : Obj) (vs : Array Value), hp.get? a = some oe ∧ Zc (.ref C) d oe ∧ oe.data = .fields vs
/-- the error's fields -/
def ExcF (I : Hp) (dx : Addr) (fs : List (Str × V)) : Prop := I dx = some (.xd fs) ∨ ∃ ψ : Heap → Prop, I dx = some (.ext ψ) ∧ ∀ hp, ψ hp → ∃ mA, hp.Ns1 dx mA ∧ ∀ f, RelO (fs.lookup f) (mA f)
theorem ExcF.mono {I H : Hp} (x : Le I H) {dx : Addr} {fs : List (Str × V)} (h : ExcF I dx fs) : ExcF H dx fs := by
  rcases h with h | ⟨ψ, h, p⟩
  · exact .inl (x _ _ h)
  · exact .inr ⟨ψ, x _ _ h, p⟩
mutual
/-- the value v, over the heap I, is the datum d -/
inductive Rep (K : PySem.W.Frag) (I : Hp) : V → D → Prop where
  | non : Rep K I .non .non
  | bl (b : Bool) : Rep K I (.bl b) (.bl b)
  | int (i : Int) : Rep K I (.int i) (.int i)
  | str (s : Str) : Rep K I (.str s) (.str s)
  | lst {a : Addr} {vs : List V} {ds : List D} (h : I a = some (.lst vs)) (r : RepL K I vs ds) : Rep K I (.ref a) (.lst ds)
  | tup {a : Addr} {vs : List V} {ds : List D} (h : SqT K I a vs) (r : RepL K I vs ds) : Rep K I (.ref a) (.tup ds)
  | dct {a : Addr} {kvs : List (Key × V)} {ds : List (Key × D)} (h : I a = some (.dK kvs)) (r : RepM K I kvs ds) : Rep K I (.ref a) (.dct ds)
  | ins {a C dx : Addr} {fs : List (Str × V)} {ds : List (Str × D)} (h : I a = some (.ins C dx fs)) (r : RepF K I fs ds) : Rep K I (.ref a) (.ins C ds)
  | scr {a : Addr} {ns : List Int} (h : SqL K I a (ns.map V.int)) : Rep K I (.ref a) (.scr ns)
  | exc0 {a C : Addr} {φ : Heap → Prop} (h : I a = some (.ext φ)) (p : ∀ hp, φ hp → ExcAt hp a C none) : Rep K I (.ref a) (.exc C [])
  | exc1 {a C dx : Addr} {φ : Heap → Prop} {fs : List (Str × V)} {ds : List (Str × D)} (h : I a = some (.ext φ)) (p : ∀ hp, φ hp → ExcAt hp a C (some dx)) (g : ExcF I dx fs) (r : RepF K I fs ds) : Rep K I (.ref a) (.exc C ds)
  | obj (v : V) : Rep K I v (.obj v)
inductive RepL (K : PySem.W.Frag) (I : Hp) : List V → List D → Prop where
  | nil : RepL K I [] []
  | cons {v : V} {vs : List V} {d : D} {ds : List D} (h : Rep K I v d) (r : RepL K I vs ds) : RepL K I (v :: vs) (d :: ds)
inductive RepM (K : PySem.W.Frag) (I : Hp) : List (Key × V) → List (Key × D) → Prop where
  | nil : RepM K I [] []
  | cons {k : Key} {v : V} {vs : List (Key × V)} {d : D} {ds : List (Key × D)} (h : Rep K I v d) (r : RepM K I vs ds) : RepM K I ((k, v) :: vs) ((k, d) :: ds)
inductive RepF (K : PySem.W.Frag) (I : Hp) : List (Str × V) → List (Str × D) → Prop where
  | nil : RepF K I [] []
  | cons {k : Str} {v : V} {vs : List (Str × V)} {d : D} {ds : List (Str × D)} (h : Rep K I v d) (r : RepF K I vs ds) : RepF K I ((k, v) :: vs) ((k, d) :: ds)
end

section
variable {K : PySem.W.Frag} {I H : Hp}
mutual
theorem Rep.mono (x : Le I H) : ∀ {v : V} {d : D}, Rep K I v d → Rep K H v d
  | _, _, .non => .non
  | _, _, .bl b => .bl b
  | _, _, .int b => .int b
  | _, _, .str b => .str b
  | _, _, .lst h r => .lst (x _ _ h) (r.mono x)
  | _, _, .tup h r => .tup (x.sqT h) (r.mono x)
  | _, _, .dct h r => .dct (x _ _ h) (r.mono x)
  | _, _, .ins h r => .ins (x _ _ h) (r.mono x)
  | _, _, .scr h => .scr (x.sqL h)
  | _, _, .exc0 h p => .exc0 (x _ _ h) p
  | _, _, .exc1 h p g r => .exc1 (x _ _ h) p (g.mono x) (r.mono x)
  | _, _, .obj v => .obj v
theorem RepL.mono (x : Le I H) : ∀ {v : List V} {d : List D}, RepL K I v d → RepL K H v d
  | _, _, .nil => .nil
  | _, _, .cons h r => .cons (h.mono x) (r.mono x)
theorem RepM.mono (x : Le I H) : ∀ {v : List (Key × V)} {d : List (Key × D)}, RepM K I v d → RepM K H v d
  | _, _, .nil => .nil
  | _, _, .cons h r => .cons (h.mono x) (r.mono x)
theorem RepF.mono (x : Le I H) : ∀ {v : List (Str × V)} {d : List (Str × D)}, RepF K I v d → RepF K H v d
  | _, _, .nil => .nil
  | _, _, .cons h r => .cons (h.mono x) (r.mono x)
end
theorem RepL.length : ∀ {v : List V} {d : List D}, RepL K I v d → v.length = d.length
  | _, _, .nil => rfl
  | _, _, .cons _ r => by rw [List.length_cons, List.length_cons, r.length]
theorem RepL.get : ∀ {v : List V} {d : List D} {i : Nat} {x : D}, RepL K I v d → d[i]? = some x → ∃ y, v[i]? = some y ∧ Rep K I y x
  | _, _, _, _, .nil, e => by simp at e
  | _, _, 0, _, .cons h _, e => by
    simp at e
    subst e
    exact ⟨_, rfl, h⟩
  | _, _, i + 1, x, .cons _ r, e => by
    obtain ⟨y, h1, h2⟩ := r.get (i := i) (x := x) (by simpa using e)
    exact ⟨y, by simpa using h1, h2⟩
theorem RepL.getV : ∀ {v : List V} {d : List D} {i : Nat} {y : V}, RepL K I v d → v[i]? = some y → ∃ x, d[i]? = some x ∧ Rep K I y x
  | _, _, _, _, .nil, e => by simp at e
  | _, _, 0, _, .cons h _, e => by
    simp at e
    subst e
    exact ⟨_, rfl, h⟩
  | _, _, i + 1, x, .cons _ r, e => by
    obtain ⟨y, h1, h2⟩ := r.getV (i := i) (y := x) (by simpa using e)
    exact ⟨y, by simpa using h1, h2⟩
theorem RepL.append : ∀ {v u : List V} {d e : List D}, RepL K I v d → RepL K I u e → RepL K I (v ++ u) (d ++ e)
  | _, _, _, _, .nil, s => s
  | _, _, _, _, .cons h r, s => .cons h (r.append s)
theorem RepL.take : ∀ {v : List V} {d : List D} (n : Nat), RepL K I v d → RepL K I (v.take n) (d.take n)
  | _, _, 0, _ => by simpa using RepL.nil
  | _, _, n + 1, .nil => .nil
  | _, _, n + 1, .cons h r => .cons h (r.take n)
theorem RepL.drop : ∀ {v : List V} {d : List D} (n : Nat), RepL K I v d → RepL K I (v.drop n) (d.drop n)
  | _, _, 0, r => by simpa using r
  | _, _, n + 1, .nil => .nil
  | _, _, n + 1, .cons _ r => r.drop n
theorem RepL.set : ∀ {v : List V} {d : List D} {y : V} {x : D} (n : Nat), RepL K I v d → Rep K I y x → RepL K I (v.set n y) (d.set n x)
  | _, _, _, _, _, .nil, _ => .nil
  | _, _, _, _, 0, .cons _ r, h => .cons h r
  | _, _, _, _, n + 1, .cons g r, h => .cons g (r.set n h)
theorem RepL.reverse : ∀ {v : List V} {d : List D}, RepL K I v d → RepL K I v.reverse d.reverse
  | _, _, .nil => .nil
  | _, _, .cons h r => by
    rw [List.reverse_cons, List.reverse_cons]
    exact r.reverse.append (.cons h .nil)
theorem RepM.keys : ∀ {v : List (Key × V)} {d : List (Key × D)}, RepM K I v d → v.map (·.1) = d.map (·.1)
  | _, _, .nil => rfl
  | _, _, .cons _ r => by rw [List.map_cons, List.map_cons, r.keys]
theorem RepM.length {v : List (Key × V)} {d : List (Key × D)} (r : RepM K I v d) : v.length = d.length := by
  have := congrArg List.length r.keys
  simpa using this
end

/-- a thing of its own kind that calls may change: the cells F, what holds of them -/
structure Res where
  F : Addr → Prop
  J : Nat → Hp → Prop
  loc : ∀ n H H', (∀ a, F a → H' a = H a) → J n H → J n H'
  mono : ∀ n m H, n ≤ m → J n H → J m H
def Res.nil : Res := ⟨fun _ => False, fun _ _ => True, fun _ _ _ _ _ => trivial, fun _ _ _ _ _ => trivial⟩

/-- the world stands: I are the things that stay, H the heap -/
structure Wk (Z : Res) (n : Nat) (I H : Hp) : Prop where
  ih : Le I H
  j : Z.J n H
  zf : ∀ a, Z.F a → I a = none
  zl : ∀ a, Z.F a → H a ≠ none
/-- from I, H to I', H' -/
structure Stp (Z : Res) (I H : Hp) (n : Nat) (I' H' : Hp) : Prop where
  wk : Wk Z n I' H'
  ex : Le I I'
  kp : ∀ a o, ¬ Z.F a → H a = some o → H' a = some o
  nw : ∀ a, I a = none → H a ≠ none → I' a = none

section
variable {Z : Res} {n n1 n2 : Nat} {I H I1 H1 I2 H2 : Hp}
theorem Wk.refl (w : Wk Z n I H) : Stp Z I H n I H := ⟨w, Le.refl _, fun _ _ _ h => h, fun _ h _ => h⟩
theorem Stp.live (s : Stp Z I H n1 I1 H1) {a : Addr} (h : H a ≠ none) : H1 a ≠ none := by
  by_cases f : Z.F a
  · exact s.wk.zl a f
  · cases q : H a with
    | none => exact absurd q h
    | some o =>
      rw [s.kp a o f q]
      exact fun z => nomatch z
theorem Stp.trans (a : Stp Z I H n1 I1 H1) (b : Stp Z I1 H1 n2 I2 H2) : Stp Z I H n2 I2 H2 :=
  ⟨b.wk, a.ex.trans b.ex, fun c o f h => b.kp c o f (a.kp c o f h), fun c h n => b.nw c (a.nw c h n) (a.live n)⟩
theorem Stp.later (s : Stp Z I H n1 I1 H1) (h : n1 ≤ n2) : Stp Z I H n2 I1 H1 := ⟨⟨s.wk.ih, Z.mono _ _ _ h s.wk.j, s.wk.zf, s.wk.zl⟩, s.ex, s.kp, s.nw⟩
theorem Wk.nf (w : Wk Z n I H) {p : Addr} (h : H p = none) : ¬ Z.F p := fun f => w.zl p f h
/-- a new thing that stays -/
theorem Wk.laid (w : Wk Z n I H) {p : Addr} {o : HO} (h : H p = none) : Stp Z I H n (upd I p o) (upd H p o) where
  wk := by
    have nf := w.nf h
    refine ⟨w.ih.upd, Z.loc _ H _ (fun a f => upd_ne (fun (e : a = p) => nf (e ▸ f))) w.j, fun a f => ?_, fun a f => ?_⟩
    · rw [upd_ne (fun (e : a = p) => nf (e ▸ f))]
      exact w.zf a f
    · rw [upd_ne (fun (e : a = p) => nf (e ▸ f))]
      exact w.zl a f
  ex := Le.new (w.ih.free h)
  kp := fun a u _ e => by
    rw [upd_ne (ne_of_none e h)]
    exact e
  nw := fun a e n => by
    have : a ≠ p := fun q => n (q ▸ h)
    rw [upd_ne this]
    exact e
/-- a new thing that may change yet -/
theorem Wk.young (w : Wk Z n I H) {p : Addr} {o : HO} (h : H p = none) : Stp Z I H n I (upd H p o) where
  wk := by
    have nf := w.nf h
    refine ⟨w.ih.trans (Le.new h), Z.loc _ H _ (fun a f => upd_ne (fun (e : a = p) => nf (e ▸ f))) w.j, w.zf, fun a f => ?_⟩
    rw [upd_ne (fun (e : a = p) => nf (e ▸ f))]
    exact w.zl a f
  ex := Le.refl _
  kp := fun a u _ e => by
    rw [upd_ne (ne_of_none e h)]
    exact e
  nw := fun a e _ => e
end

/-- a slot: not set; a datum that stays; a list or dict of one's own that may change -/
inductive Sl where
  | un
  | v (d : D)
  | o (d : D)

def OwnC (K : PySem.W.Frag) (I H : Hp) (a : Addr) : D → Prop
  | .lst ds => ∃ vs, H a = some (.lst vs) ∧ RepL K I vs ds
  | .dct ds => ∃ kvs, H a = some (.dK kvs) ∧ RepM K I kvs ds
  | _ => False
theorem OwnC.live {K : PySem.W.Frag} {I H : Hp} {a : Addr} : ∀ {d : D}, OwnC K I H a d → H a ≠ none
  | .lst _, ⟨_, h, _⟩ => by rw [h]; exact fun z => nomatch z
  | .dct _, ⟨_, h, _⟩ => by rw [h]; exact fun z => nomatch z
theorem OwnC.step {K : PySem.W.Frag} {I H I' H' : Hp} {a : Addr} (x : Le I I') (k : ∀ o, H a = some o → H' a = some o) : ∀ {d : D}, OwnC K I H a d → OwnC K I' H' a d
  | .lst _, ⟨vs, h, r⟩ => ⟨vs, k _ h, r.mono x⟩
  | .dct _, ⟨vs, h, r⟩ => ⟨vs, k _ h, r.mono x⟩

/-- the slots' values are the data -/
structure Ev (K : PySem.W.Frag) (Z : Res) (I0 H0 : Hp) (n : Nat) (δ : List Sl) (σ : L2.St) (I H : Hp) : Prop where
  st : Stp Z I0 H0 n I H
  len : σ.length = δ.length
  vals : ∀ (i : Nat) (d : D), δ[i]? = some (Sl.v d) → ∃ v, σ[i]? = some (some v) ∧ Rep K I v d
  owns : ∀ (i : Nat) (d : D), δ[i]? = some (Sl.o d) → ∃ a, σ[i]? = some (some (V.ref a)) ∧ I a = none ∧ ¬ Z.F a ∧ H0 a = none ∧ OwnC K I H a d
  sep : ∀ (i j : Nat) (d e : D) (a : Addr), δ[i]? = some (Sl.o d) → δ[j]? = some (Sl.o e) → σ[i]? = some (some (V.ref a)) → σ[j]? = some (some (V.ref a)) → i = j

section
variable {K : PySem.W.Frag} {Z : Res} {n n1 : Nat} {I0 H0 I H I1 H1 : Hp} {δ : List Sl} {σ : L2.St}
theorem Ev.wk (e : Ev K Z I0 H0 n δ σ I H) : Wk Z n I H := e.st.wk
theorem Ev.step (e : Ev K Z I0 H0 n δ σ I H) (s : Stp Z I H n1 I1 H1) : Ev K Z I0 H0 n1 δ σ I1 H1 where
  st := e.st.trans s
  len := e.len
  vals := fun i d h => by
    obtain ⟨v, h1, h2⟩ := e.vals i d h
    exact ⟨v, h1, h2.mono s.ex⟩
  owns := fun i d h => by
    obtain ⟨a, h1, h2, h3, h4, h5⟩ := e.owns i d h
    exact ⟨a, h1, s.nw a h2 h5.live, h3, h4, h5.step s.ex fun o => s.kp a o h3⟩
  sep := e.sep
/-- a slot is given a datum -/
theorem Ev.put {i : Nat} {v : V} {d : D} (e : Ev K Z I0 H0 n δ σ I H) (r : Rep K I v d) : Ev K Z I0 H0 n (δ.set i (.v d)) (σ.set i (some v)) I H where
  st := e.st
  len := by rw [List.length_set, List.length_set]; exact e.len
  vals := fun j c h => by
    by_cases q : i = j
    · subst q
      have hi : i < δ.length := by
        have := (List.getElem?_eq_some_iff.mp h).1
        simpa using this
      rw [List.getElem?_set_self hi] at h
      cases h
      exact ⟨v, by rw [List.getElem?_set_self (by rw [e.len]; exact hi)], r⟩
    · rw [List.getElem?_set_ne q] at h ⊢
      exact e.vals j c h
  owns := fun j c h => by
    by_cases q : i = j
    · subst q
      have hi : i < δ.length := by
        have := (List.getElem?_eq_some_iff.mp h).1
        simpa using this
      rw [List.getElem?_set_self hi] at h
      cases h
    · rw [List.getElem?_set_ne q] at h ⊢
      exact e.owns j c h
  sep := fun j k c f a h1 h2 h3 h4 => by
    by_cases q : i = j
    · subst q
      have hi : i < δ.length := by
        have := (List.getElem?_eq_some_iff.mp h1).1
        simpa using this
      rw [List.getElem?_set_self hi] at h1
      cases h1
    · by_cases q2 : i = k
      · subst q2
        have hi : i < δ.length := by
          have := (List.getElem?_eq_some_iff.mp h2).1
          simpa using this
        rw [List.getElem?_set_self hi] at h2
        cases h2
      · rw [List.getElem?_set_ne q] at h1 h3
        rw [List.getElem?_set_ne q2] at h2 h4
        exact e.sep j k c f a h1 h2 h3 h4
/-- a young thing is kept from now on -/
theorem Stp.keep {Z : Res} {n1 : Nat} {I H I1 H1 : Hp} {p : Addr} {o : HO} (s : Stp Z I H n1 I1 H1) (hp : H p = none) (nf : ¬ Z.F p) (hi : I1 p = none) (ho : H1 p = some o) : Stp Z I H n1 (upd I1 p o) H1 where
  wk := ⟨fun a u e => by
    by_cases q : a = p
    · subst q
      rw [upd_same] at e
      rw [ho]
      exact e
    · rw [upd_ne q] at e
      exact s.wk.ih a u e, s.wk.j, fun a f => by
    rw [upd_ne (fun (e : a = p) => nf (e ▸ f))]
    exact s.wk.zf a f, s.wk.zl⟩
  ex := s.ex.trans (Le.new hi)
  kp := s.kp
  nw := fun a e n => by
    rw [upd_ne (fun (q : a = p) => n (q ▸ hp))]
    exact s.nw a e n
theorem OwnC.rep {a : Addr} (n : I a = none) : ∀ {d : D}, OwnC K I H a d → ∃ o, H a = some o ∧ Rep K (upd I a o) (.ref a) d
  | .lst _, ⟨vs, h, r⟩ => ⟨_, h, .lst upd_same (r.mono (Le.new n))⟩
  | .dct _, ⟨vs, h, r⟩ => ⟨_, h, .dct upd_same (r.mono (Le.new n))⟩
/-- a slot is given a thing of its own -/
theorem Ev.putO {i : Nat} {p : Addr} {d : D} (e : Ev K Z I0 H0 n δ σ I H) (hn : I p = none) (nf : ¬ Z.F p) (h0 : H0 p = none) (ho : OwnC K I H p d) (nw : ∀ (j : Nat) (c : D), δ[j]? = some (Sl.o c) → σ[j]? ≠ some (some (V.ref p))) :
    Ev K Z I0 H0 n (δ.set i (.o d)) (σ.set i (some (.ref p))) I H where
  st := e.st
  len := by rw [List.length_set, List.length_set]; exact e.len
  vals := fun j c h => by
    by_cases q : i = j
    · subst q
      have hi : i < δ.length := by
        have := (List.getElem?_eq_some_iff.mp h).1
        simpa using this
      rw [List.getElem?_set_self hi] at h
      cases h
    · rw [List.getElem?_set_ne q] at h ⊢
      exact e.vals j c h
  owns := fun j c h => by
    by_cases q : i = j
    · subst q
      have hi : i < δ.length := by
        have := (List.getElem?_eq_some_iff.mp h).1
        simpa using this
      rw [List.getElem?_set_self hi] at h
      cases h
      exact ⟨p, by rw [List.getElem?_set_self (by rw [e.len]; exact hi)], hn, nf, h0, ho⟩
    · rw [List.getElem?_set_ne q] at h ⊢
      exact e.owns j c h
  sep := fun j k c f a h1 h2 h3 h4 => by
    by_cases q : i = j
    · by_cases q2 : i = k
      · exact q.symm.trans q2
      · subst q
        have hi : i < δ.length := by
          have := (List.getElem?_eq_some_iff.mp h1).1
          simpa using this
        rw [List.getElem?_set_self (by rw [e.len]; exact hi)] at h3
        cases h3
        rw [List.getElem?_set_ne q2] at h2 h4
        exact absurd h4 (nw k f h2)
    · rw [List.getElem?_set_ne q] at h1 h3
      by_cases q2 : i = k
      · subst q2
        have hi : i < δ.length := by
          have := (List.getElem?_eq_some_iff.mp h2).1
          simpa using this
        rw [List.getElem?_set_self (by rw [e.len]; exact hi)] at h4
        cases h4
        exact absurd h3 (nw j c h1)
      · rw [List.getElem?_set_ne q2] at h2 h4
        exact e.sep j k c f a h1 h2 h3 h4
/-- the thing of slot i is changed -/
theorem Ev.mut {i : Nat} {p : Addr} {o : HO} {c d : D} (e : Ev K Z I0 H0 n δ σ I H) (hi : δ[i]? = some (Sl.o c)) (hs : σ[i]? = some (some (V.ref p))) (ho : OwnC K I (upd H p o) p d) : Ev K Z I0 H0 n (δ.set i (.o d)) σ I (upd H p o) := by
  obtain ⟨a, h1, h2, h3, h4, h5⟩ := e.owns i c hi
  rw [h1] at hs
  cases hs
  have il : i < δ.length := (List.getElem?_eq_some_iff.mp hi).1
  refine ⟨⟨⟨fun b u q => ?_, Z.loc _ H _ (fun b f => upd_ne (fun (q : b = p) => h3 (q ▸ f))) e.st.wk.j, e.st.wk.zf, fun b f => ?_⟩, e.st.ex, fun b u f q => ?_, e.st.nw⟩, ?_, fun j b h => ?_, fun j b h => ?_, fun j k b f x g1 g2 g3 g4 => ?_⟩
  · have : b ≠ p := fun z => by rw [z, h2] at q; cases q
    rw [upd_ne this]
    exact e.st.wk.ih b u q
  · rw [upd_ne (fun (q : b = p) => h3 (q ▸ f))]
    exact e.st.wk.zl b f
  · have : b ≠ p := fun z => by rw [z, h4] at q; cases q
    rw [upd_ne this]
    exact e.st.kp b u f q
  · rw [List.length_set]
    exact e.len
  · by_cases q : i = j
    · subst q
      rw [List.getElem?_set_self il] at h
      cases h
    · rw [List.getElem?_set_ne q] at h
      exact e.vals j b h
  · by_cases q : i = j
    · subst q
      rw [List.getElem?_set_self il] at h
      cases h
      exact ⟨p, h1, h2, h3, h4, ho⟩
    · rw [List.getElem?_set_ne q] at h
      obtain ⟨x, g1, g2, g3, g4, g5⟩ := e.owns j b h
      have : x ≠ p := fun z => q (e.sep i j c b p hi h h1 (z ▸ g1))
      exact ⟨x, g1, g2, g3, g4, g5.step (Le.refl _) fun u z => by rw [upd_ne this]; exact z⟩
  · have un : ∀ (m : Nat) (f : D), (δ.set i (Sl.o d))[m]? = some (Sl.o f) → ∃ f', δ[m]? = some (Sl.o f') := fun m f h => by
      by_cases q : i = m
      · subst q
        exact ⟨c, hi⟩
      · rw [List.getElem?_set_ne q] at h
        exact ⟨f, h⟩
    obtain ⟨_, k1⟩ := un j b g1
    obtain ⟨_, k2⟩ := un k f g2
    exact e.sep j k _ _ x k1 k2 g3 g4
/-- all own things are kept -/
def frz : List Sl → List Sl := List.map fun s => match s with
  | .o d => .v d
  | s => s
theorem frz_v {δ : List Sl} {i : Nat} {d : D} (h : (frz δ)[i]? = some (Sl.v d)) : δ[i]? = some (Sl.v d) ∨ δ[i]? = some (Sl.o d) := by
  unfold frz at h
  rw [List.getElem?_map] at h
  cases q : δ[i]? with
  | none => rw [q] at h; cases h
  | some s =>
    rw [q] at h
    cases s with
    | un => cases h
    | v e => cases h; exact .inl rfl
    | o e => cases h; exact .inr rfl
theorem frz_o {δ : List Sl} {i : Nat} {d : D} (h : (frz δ)[i]? = some (Sl.o d)) : False := by
  unfold frz at h
  rw [List.getElem?_map] at h
  cases q : δ[i]? with
  | none => rw [q] at h; cases h
  | some s =>
    rw [q] at h
    cases s <;> cases h
def OwnA (δ : List Sl) (σ : L2.St) (a : Addr) : Prop := ∃ (i : Nat) (d : D), δ[i]? = some (Sl.o d) ∧ σ[i]? = some (some (V.ref a))
open Classical in
noncomputable def frI (δ : List Sl) (σ : L2.St) (I H : Hp) : Hp := fun a => if OwnA δ σ a then H a else I a
theorem frI_own {a : Addr} (h : OwnA δ σ a) : frI δ σ I H a = H a := by unfold frI; rw [if_pos h]
theorem frI_not {a : Addr} (h : ¬ OwnA δ σ a) : frI δ σ I H a = I a := by unfold frI; rw [if_neg h]
theorem Ev.ofOwn (e : Ev K Z I0 H0 n δ σ I H) {a : Addr} (h : OwnA δ σ a) : I a = none ∧ ¬ Z.F a ∧ H0 a = none ∧ ∃ d, OwnC K I H a d := by
  obtain ⟨i, d, h1, h2⟩ := h
  obtain ⟨b, g1, g2, g3, g4, g5⟩ := e.owns i d h1
  rw [h2] at g1
  cases g1
  exact ⟨g2, g3, g4, d, g5⟩
theorem Ev.leFr (e : Ev K Z I0 H0 n δ σ I H) : Le I (frI δ σ I H) := fun a u q => by
  have : ¬ OwnA δ σ a := fun z => by rw [(e.ofOwn z).1] at q; cases q
  rw [frI_not this]
  exact q
theorem Ev.fr (e : Ev K Z I0 H0 n δ σ I H) : Ev K Z I0 H0 n (frz δ) σ (frI δ σ I H) H where
  st := by
    refine ⟨⟨fun a u q => ?_, e.st.wk.j, fun a f => ?_, e.st.wk.zl⟩, e.st.ex.trans e.leFr, e.st.kp, fun a h n => ?_⟩
    · by_cases z : OwnA δ σ a
      · rw [frI_own z] at q
        exact q
      · rw [frI_not z] at q
        exact e.st.wk.ih a u q
    · rw [frI_not (fun z => (e.ofOwn z).2.1 f)]
      exact e.st.wk.zf a f
    · rw [frI_not (fun z => n (e.ofOwn z).2.2.1)]
      exact e.st.nw a h n
  len := by
    unfold frz
    rw [List.length_map]
    exact e.len
  vals := fun i d h => by
    rcases frz_v h with h | h
    · obtain ⟨v, h1, h2⟩ := e.vals i d h
      exact ⟨v, h1, h2.mono e.leFr⟩
    · obtain ⟨a, h1, h2, h3, h4, h5⟩ := e.owns i d h
      refine ⟨_, h1, ?_⟩
      obtain ⟨o, ho, r⟩ := h5.rep h2
      refine r.mono fun b u q => ?_
      by_cases z : b = a
      · subst z
        rw [upd_same] at q
        rw [frI_own ⟨i, d, h, h1⟩, ho]
        exact q
      · rw [upd_ne z] at q
        exact e.leFr b u q
  owns := fun i d h => (frz_o h).elim
  sep := fun i j d _ a h _ _ _ => (frz_o h).elim
/-- data without lists and dicts -/
def imm : D → Bool
  | .lst _ => false
  | .dct _ => false
  | .scr _ => false
  | .tup xs => immL xs
  | .ins _ fs => immF fs
  | .exc _ fs => immF fs
  | _ => true
where
  immL : List D → Bool
    | [] => true
    | d :: ds => imm d && immL ds
  immF : List (Str × D) → Bool
    | [] => true
    | (_, d) :: ds => imm d && immF ds
end
end Dt

/-! DtB: the judgements over plain data. -/
namespace Dt
open PySem L2

/-- an error: its class, its fields (if it has a dict of its own) -/
structure Xn where
  cls : Value
  fs : Option (List (Str × D))
def XRep (K : PySem.W.Frag) (I H : Hp) (x : Xn) (d : Option Addr) : Prop := match x.fs, d with
  | none, none => True
  | some fs, some a => ∃ vs, H a = some (.xd vs) ∧ RepF K I vs fs
  | _, _ => False
/-- what a piece of text is run in: the world's own cells, what is wanted of an error -/
structure Ct where
  Z : Res
  ex : Nat → Xn → Prop
def XR (K : PySem.W.Frag) (E : XK) (Z : Res) (I0 H0 : Hp) (cx : Nat → Xn → Prop) : Prop :=
  ∀ x d n I H, Stp Z I0 H0 n I H → XRep K I H x d → cx n x → E x.cls d H

abbrev WE := Ct → Nat → List Sl → (Nat → D → Prop) → Prop
abbrev WA := Ct → Nat → List Sl → (Nat → List D → Prop) → Prop
abbrev WT := Ct → Nat → List Sl → (Nat → Bool → Prop) → Prop
structure DEnds where
  nx : Nat → List Sl → Prop
  rt : Nat → D → Prop
  bk : Nat → List Sl → Prop := fun _ _ => False
  ct : Nat → List Sl → Prop := fun _ _ => False
abbrev WS := Ct → DEnds → Nat → List Sl → Prop

def SE (K : PySem.W.Frag) (E : XK) (t : TE) (w : WE) : Prop := ∀ (Z : Res) (I0 H0 : Hp) (cx : Nat → Xn → Prop) (n : Nat) (δ : List Sl) (σ : L2.St) (I H : Hp) (P : Nat → D → Prop) (Q : VK),
  XR K E Z I0 H0 cx → Ev K Z I0 H0 n δ σ I H → w ⟨Z, cx⟩ n δ P → (∀ d v n' I' H', Stp Z I H n' I' H' → Rep K I' v d → P n' d → Q v H') → t σ H Q
/-- .. a new list or dict -/
def SF (K : PySem.W.Frag) (E : XK) (t : TE) (w : WE) : Prop := ∀ (Z : Res) (I0 H0 : Hp) (cx : Nat → Xn → Prop) (n : Nat) (δ : List Sl) (σ : L2.St) (I H : Hp) (P : Nat → D → Prop) (Q : VK),
  XR K E Z I0 H0 cx → Ev K Z I0 H0 n δ σ I H → w ⟨Z, cx⟩ n δ P → (∀ d p n' I' H', Stp Z I H n' I' H' → H p = none → I' p = none → ¬ Z.F p → OwnC K I' H' p d → P n' d → Q (.ref p) H') → t σ H Q
def SA (K : PySem.W.Frag) (E : XK) (t : TA) (w : WA) : Prop := ∀ (Z : Res) (I0 H0 : Hp) (cx : Nat → Xn → Prop) (n : Nat) (δ : List Sl) (σ : L2.St) (I H : Hp) (P : Nat → List D → Prop) (Q : List V → Hp → Prop),
  XR K E Z I0 H0 cx → Ev K Z I0 H0 n δ σ I H → w ⟨Z, cx⟩ n δ P → (∀ ds vs n' I' H', Stp Z I H n' I' H' → RepL K I' vs ds → P n' ds → Q vs H') → t σ H Q
def ST (K : PySem.W.Frag) (E : XK) (t : TT) (w : WT) : Prop := ∀ (Z : Res) (I0 H0 : Hp) (cx : Nat → Xn → Prop) (n : Nat) (δ : List Sl) (σ : L2.St) (I H : Hp) (P : Nat → Bool → Prop) (Q : Bool → Hp → Prop),
  XR K E Z I0 H0 cx → Ev K Z I0 H0 n δ σ I H → w ⟨Z, cx⟩ n δ P → (∀ b n' I' H', Stp Z I H n' I' H' → P n' b → Q b H') → t σ H Q
structure EO (K : PySem.W.Frag) (Z : Res) (I0 H0 I : Hp) (De : DEnds) (D' : Ends) : Prop where
  nx : ∀ n δ σ I' H', Le I I' → Ev K Z I0 H0 n δ σ I' H' → De.nx n δ → D'.nx σ H'
  rt : ∀ d v n I' H', Stp Z I0 H0 n I' H' → Rep K I' v d → De.rt n d → D'.rt v H'
  bk : ∀ n δ σ I' H', Le I I' → Ev K Z I0 H0 n δ σ I' H' → De.bk n δ → D'.bk σ H'
  ct : ∀ n δ σ I' H', Le I I' → Ev K Z I0 H0 n δ σ I' H' → De.ct n δ → D'.ct σ H'
theorem EO.mono {K : PySem.W.Frag} {Z : Res} {I0 H0 I I1 : Hp} {De : DEnds} {D' : Ends} (x : Le I I1) (h : EO K Z I0 H0 I De D') : EO K Z I0 H0 I1 De D' :=
  ⟨fun n δ σ I' H' l => h.nx n δ σ I' H' (x.trans l), h.rt, fun n δ σ I' H' l => h.bk n δ σ I' H' (x.trans l), fun n δ σ I' H' l => h.ct n δ σ I' H' (x.trans l)⟩
def SS (K : PySem.W.Frag) (E : XK) (t : TS) (w : WS) : Prop := ∀ (Z : Res) (I0 H0 : Hp) (cx : Nat → Xn → Prop) (De : DEnds) (D' : Ends) (n : Nat) (δ : List Sl) (σ : L2.St) (I H : Hp),
  XR K E Z I0 H0 cx → EO K Z I0 H0 I De D' → Ev K Z I0 H0 n δ σ I H → w ⟨Z, cx⟩ De n δ → t D' σ H

def DE (X : Cx) (E : XK) (e : Expr) (w : WE) : Prop := ∃ t, PE X e t ∧ SE X.K E t w
def DF (X : Cx) (E : XK) (e : Expr) (w : WE) : Prop := ∃ t, PE X e t ∧ SF X.K E t w
def DA (X : Cx) (E : XK) (es : List Expr) (w : WA) : Prop := ∃ t, PA X es t ∧ SA X.K E t w
def DT (X : Cx) (E : XK) (e : Expr) (w : WT) : Prop := ∃ t, PT X e t ∧ ST X.K E t w
def DS (X : Cx) (E : XK) (s : Stmt) (w : WS) : Prop := ∃ t, PS X s t ∧ SS X.K E t w
def DSs (X : Cx) (E : XK) (s : List Stmt) (w : WS) : Prop := ∃ t, PSs X s t ∧ SS X.K E t w

section
variable {K : PySem.W.Frag} {E : XK}
theorem SF.se {t : TE} {w : WE} (h : SF K E t w) : SE K E t w := fun Z I0 H0 cx n δ σ I H P Q hx he hw hq =>
  h Z I0 H0 cx n δ σ I H P Q hx he hw fun d p n' I' H' s hp hi nf ow hP => by
    obtain ⟨o, ho, r⟩ := ow.rep hi
    exact hq d _ _ _ _ (s.keep hp nf hi ho) r hP
end
theorem DF.de {X : Cx} {E : XK} {e : Expr} {w : WE} (h : DF X E e w) : DE X E e w := let ⟨t, p, s⟩ := h; ⟨t, p, s.se⟩

/-! ### borrowing -/
section
variable {K : PySem.W.Frag} {Z : Res} {n n1 : Nat} {I0 H0 I H I1 H1 : Hp} {δ : List Sl} {σ : L2.St}
open Classical in
noncomputable def unI (δ : List Sl) (σ : L2.St) (I : Hp) : Hp := fun a => if OwnA δ σ a then none else I a
theorem unI_own {a : Addr} (h : OwnA δ σ a) : unI δ σ I a = none := by unfold unI; rw [if_pos h]
theorem unI_not {a : Addr} (h : ¬ OwnA δ σ a) : unI δ σ I a = I a := by unfold unI; rw [if_neg h]
def noCell : HO → Prop
  | .lst _ => False
  | .dK _ => False
  | _ => True
mutual
theorem Rep.imm {I J : Hp} (x : ∀ a o, I a = some o → noCell o → J a = some o) : ∀ {v : V} {d : D}, Rep K I v d → imm d = true → Rep K J v d
  | _, _, .non, _ => .non
  | _, _, .bl b, _ => .bl b
  | _, _, .int b, _ => .int b
  | _, _, .str b, _ => .str b
  | _, _, .lst h r, i => by simp [Dt.imm] at i
  | _, _, .tup h r, i => by
    refine .tup ?_ (r.imm x (by simpa [Dt.imm] using i))
    rcases h with (h | ⟨o, h⟩) | h
    · exact .inl (.inl (x _ _ h trivial))
    · exact .inl (.inr ⟨o, x _ _ h trivial⟩)
    · exact .inr h
  | _, _, .dct h r, i => by simp [Dt.imm] at i
  | _, _, .ins h r, i => .ins (x _ _ h trivial) (r.imm x (by simpa [Dt.imm] using i))
  | _, _, .scr h, i => by simp [Dt.imm] at i
  | _, _, .exc0 h p, _ => .exc0 (x _ _ h trivial) p
  | _, _, .exc1 h p g r, i => .exc1 (x _ _ h trivial) p (by
      rcases g with g | ⟨ψ, g, q⟩
      · exact .inl (x _ _ g trivial)
      · exact .inr ⟨ψ, x _ _ g trivial, q⟩) (r.imm x (by simpa [Dt.imm] using i))
  | _, _, .obj v, _ => .obj v
theorem RepL.imm {I J : Hp} (x : ∀ a o, I a = some o → noCell o → J a = some o) : ∀ {v : List V} {d : List D}, RepL K I v d → imm.immL d = true → RepL K J v d
  | _, _, .nil, _ => .nil
  | _, _, .cons h r, i => by
    obtain ⟨i1, i2⟩ := Bool.and_eq_true_iff.mp (show (Dt.imm _ && Dt.imm.immL _) = true from i)
    exact .cons (h.imm x i1) (r.imm x i2)
theorem RepF.imm {I J : Hp} (x : ∀ a o, I a = some o → noCell o → J a = some o) : ∀ {v : List (Str × V)} {d : List (Str × D)}, RepF K I v d → imm.immF d = true → RepF K J v d
  | _, _, .nil, _ => .nil
  | _, _, .cons h r, i => by
    obtain ⟨i1, i2⟩ := Bool.and_eq_true_iff.mp (show (Dt.imm _ && Dt.imm.immF _) = true from i)
    exact .cons (h.imm x i1) (r.imm x i2)
end
theorem OwnC.cell {a : Addr} : ∀ {d : D}, OwnC K I H a d → ∃ o, H a = some o ∧ ¬ noCell o
  | .lst _, ⟨vs, h, r⟩ => ⟨_, h, fun z => z⟩
  | .dct _, ⟨vs, h, r⟩ => ⟨_, h, fun z => z⟩
theorem Ev.back (e : Ev K Z I0 H0 n δ σ I H) (s : Stp Z (frI δ σ I H) H n1 I1 H1) : Stp Z I H n1 (unI δ σ I1) H1 where
  wk := ⟨fun a u q => by
    by_cases z : OwnA δ σ a
    · rw [unI_own z] at q
      cases q
    · rw [unI_not z] at q
      exact s.wk.ih a u q, s.wk.j, fun a f => by
    by_cases z : OwnA δ σ a
    · exact unI_own z
    · rw [unI_not z]
      exact s.wk.zf a f, s.wk.zl⟩
  ex := fun a u q => by
    have z : ¬ OwnA δ σ a := fun z => by rw [(e.ofOwn z).1] at q; cases q
    rw [unI_not z]
    exact s.ex a u (by rw [frI_not z]; exact q)
  kp := s.kp
  nw := fun a h n => by
    by_cases z : OwnA δ σ a
    · exact unI_own z
    · rw [unI_not z]
      exact s.nw a (by rw [frI_not z]; exact h) n
theorem Ev.backI (e : Ev K Z I0 H0 n δ σ I H) (s : Stp Z (frI δ σ I H) H n1 I1 H1) : ∀ a o, I1 a = some o → noCell o → unI δ σ I1 a = some o := fun a o h n => by
  by_cases z : OwnA δ σ a
  · obtain ⟨_, _, _, d, ow⟩ := e.ofOwn z
    obtain ⟨u, hu, nu⟩ := ow.cell
    have : I1 a = some u := s.ex a u (by rw [frI_own z]; exact hu)
    rw [h] at this
    cases this
    exact absurd n nu
  · rw [unI_not z]
    exact h
end
/-- with all own things kept for the while: what comes out holds no list and no dict -/
def wBor (w : WE) : WE := fun c n δ P => w c n (frz δ) fun n' d => imm d = true ∧ P n' d
def wBorT (w : WT) : WT := fun c n δ P => w c n (frz δ) P
def wBorF (w : WE) : WE := fun c n δ P => w c n (frz δ) fun n' d => (match d with | .lst ds => imm.immL ds = true | _ => False) ∧ P n' d
section
variable {X : Cx} {E : XK} {e : Expr}
theorem de_bor {w : WE} (h : DE X E e w) : DE X E e (wBor w) := by
  obtain ⟨t, p, s⟩ := h
  refine ⟨t, p, fun Z I0 H0 cx n δ σ I H P Q hx he hw hq => s Z I0 H0 cx n _ σ _ H _ Q hx he.fr hw fun d v n' I' H' st r hP => ?_⟩
  exact hq d v _ _ _ (he.back st) (r.imm (he.backI st) hP.1) hP.2
theorem dt_bor {w : WT} (h : DT X E e w) : DT X E e (wBorT w) := by
  obtain ⟨t, p, s⟩ := h
  exact ⟨t, p, fun Z I0 H0 cx n δ σ I H P Q hx he hw hq => s Z I0 H0 cx n _ σ _ H _ Q hx he.fr hw fun b n' I' H' st hP => hq b _ _ _ (he.back st) hP⟩
theorem df_bor {w : WE} (h : DF X E e w) : DF X E e (wBorF w) := by
  obtain ⟨t, p, s⟩ := h
  refine ⟨t, p, fun Z I0 H0 cx n δ σ I H P Q hx he hw hq => s Z I0 H0 cx n _ σ _ H _ Q hx he.fr hw fun d q n' I' H' st hp hi nf ow hP => ?_⟩
  refine hq d q _ _ _ (he.back st) hp ?_ nf ?_ hP.2
  · by_cases z : OwnA δ σ q
    · exact unI_own z
    · rw [unI_not z]
      exact hi
  · cases d with
    | lst ds =>
      obtain ⟨vs, h1, h2⟩ := ow
      exact ⟨vs, h1, h2.imm (he.backI st) hP.1⟩
    | _ => exact hP.1.elim
end

/-! ### names, constants -/
def wVar (i : Nat) : WE := fun _ n δ P => match δ[i]? with
  | some (.v d) => P n d
  | _ => False
def wC (d : D) : WE := fun _ n _ P => P n d
section
variable {X : Cx} {E : XK}
theorem de_var (i : Nat) {x : Str} {pos : Pos} (hN : X.N[i]? = some x := by rfl) (hv : Vis X.env.scope x := by first | exact Or.inl rfl | exact Or.inr (Or.inl rfl) | exact Or.inr (Or.inr rfl)) (hd : (x == ("__debug__" : Str)) = false := by decide)
    (hcd : (x == ("__classdict__" : Str)) = false := by decide) : DE X E (.Name x pos) (wVar i) :=
  ⟨_, pe_var hN hv hd hcd, fun Z I0 H0 cx n δ σ I H P Q hx he hw hq => by
    unfold wVar at hw
    split at hw
    · rename_i d h
      obtain ⟨v, h1, h2⟩ := he.vals i d h
      exact ⟨v, h1, hq d v n I H he.wk.refl h2 hw⟩
    · exact hw.elim⟩
theorem SE.c {K : PySem.W.Frag} {v : V} {d : D} (r : ∀ I, Rep K I v d) : SE K E (tC v) (wC d) := fun Z I0 H0 cx n δ σ I H P Q hx he hw hq => hq d v n I H he.wk.refl (r I) hw
theorem de_int {i j pos} : DE X E (.Constant (.int i) j pos) (wC (.int i)) := ⟨_, pe_int, SE.c fun _ => .int i⟩
theorem de_bl {b j pos} : DE X E (.Constant (.bool b) j pos) (wC (.bl b)) := ⟨_, pe_bl, SE.c fun _ => .bl b⟩
theorem de_non {j pos} : DE X E (.Constant .none j pos) (wC .non) := ⟨_, pe_non, SE.c fun _ => .non⟩
theorem de_str {x j pos} : DE X E (.Constant (.str x) j pos) (wC (.str x)) := ⟨_, pe_str, SE.c fun _ => .str x⟩
/-- a module's name -/
theorem de_glob {x : Str} {v : V} {u : Value} {pos : Pos} {d : D} (hg : Gl X x) (hm : X.mg x = some u) (r : RelV v u) (rd : ∀ I, Rep X.K I v d) (hd : (x == ("__debug__" : Str)) = false := by decide) : DE X E (.Name x pos) (wC d) := ⟨_, pe_glob hg hm r hd, SE.c rd⟩
end

/-! ### operators by values -/
abbrev W2 := D → D → (D → Prop) → Prop
def OpD (K : PySem.W.Frag) (r : R2) (f : W2) : Prop := ∀ (Z : Res) (n : Nat) (I H : Hp) (x y : V) (d e : D) (P : D → Prop) (Q : VK), Wk Z n I H → Rep K I x d → Rep K I y e → f d e P →
  (∀ g v I' H', Stp Z I H n I' H' → Rep K I' v g → P g → Q v H') → r x y H Q
def OpF (K : PySem.W.Frag) (r : R2) (f : W2) : Prop := ∀ (Z : Res) (n : Nat) (I H : Hp) (x y : V) (d e : D) (P : D → Prop) (Q : VK), Wk Z n I H → Rep K I x d → Rep K I y e → f d e P →
  (∀ g p I' H', Stp Z I H n I' H' → H p = none → I' p = none → ¬ Z.F p → OwnC K I' H' p g → P g → Q (.ref p) H') → r x y H Q
def wOp (f : W2) (wa wb : WE) : WE := fun c n δ P => wa c n δ fun n1 d => wb c n1 δ fun n2 e => f d e (P n2)
section
variable {K : PySem.W.Frag} {E : XK} {ta tb : TE} {wa wb : WE} {r : R2} {f : W2}
theorem SE.op (hr : OpD K r f) (ha : SE K E ta wa) (hb : SE K E tb wb) : SE K E (tOp r ta tb) (wOp f wa wb) := fun Z I0 H0 cx n δ σ I H P Q hx he hw hq =>
  ha Z I0 H0 cx n δ σ I H _ _ hx he hw fun d x n1 I1 H1 s1 r1 h1 => hb Z I0 H0 cx n1 δ σ I1 H1 _ _ hx (he.step s1) h1 fun e y n2 I2 H2 s2 r2 h2 =>
    hr Z n2 I2 H2 x y d e _ Q s2.wk (r1.mono s2.ex) r2 h2 fun g v I3 H3 s3 => hq g v n2 I3 H3 ((s1.trans s2).trans s3)
theorem SF.op (hr : OpF K r f) (ha : SE K E ta wa) (hb : SE K E tb wb) : SF K E (tOp r ta tb) (wOp f wa wb) := fun Z I0 H0 cx n δ σ I H P Q hx he hw hq =>
  ha Z I0 H0 cx n δ σ I H _ _ hx he hw fun d x n1 I1 H1 s1 r1 h1 => hb Z I0 H0 cx n1 δ σ I1 H1 _ _ hx (he.step s1) h1 fun e y n2 I2 H2 s2 r2 h2 =>
    hr Z n2 I2 H2 x y d e _ Q s2.wk (r1.mono s2.ex) r2 h2 fun g v I3 H3 s3 z1 z2 z3 =>
      hq g v n2 I3 H3 ((s1.trans s2).trans s3) (by
        cases q : H v with
        | none => rfl
        | some o =>
          rw [(s1.trans s2).kp v o z3 q] at z1
          cases z1) z2 z3
theorem OpD.or {r' : R2} {f' : W2} (h : OpD K r f) (h' : OpD K r' f') : OpD K (fun x y H Q => r x y H Q ∨ r' x y H Q) (fun d e P => f d e P ∨ f' d e P) := fun Z n I H x y d e P Q w rx ry hf hq => by
  rcases hf with hf | hf
  · exact .inl (h Z n I H x y d e P Q w rx ry hf hq)
  · exact .inr (h' Z n I H x y d e P Q w rx ry hf hq)
end
end Dt

/-! DtC: operators and comparisons. -/
namespace Dt
open PySem L2

/-! ### data as the library's -/
mutual
def D.py : D → PyData
  | .non => .none
  | .bl b => .bool b
  | .int i => .int i
  | .str s => .str s
  | .lst xs => .list (D.pyL xs)
  | .tup xs => .tuple (D.pyL xs)
  | .scr ns => .list (ns.map .int)
  | _ => .none
def D.pyL : List D → List PyData
  | [] => []
  | d :: ds => d.py :: D.pyL ds
end
mutual
/-- plain data, n levels deep at most -/
def dep : Nat → D → Bool
  | _, .non => true
  | _, .bl _ => true
  | _, .int _ => true
  | _, .str s => PyData.strOk s
  | n + 1, .lst xs => depL n xs
  | n + 1, .tup xs => depL n xs
  | n + 1, .scr _ => true
  | _, _ => false
def depL : Nat → List D → Bool
  | _, [] => true
  | n, d :: ds => dep n d && depL n ds
end
theorem pyL_eq : ∀ ds : List D, D.pyL ds = ds.map D.py
  | [] => rfl
  | d :: ds => by rw [D.pyL, List.map_cons, pyL_eq ds]
theorem depL_all (n : Nat) : ∀ ds : List D, depL n ds = ds.all (dep n)
  | [] => by simp [depL]
  | d :: ds => by rw [depL, List.all_cons, depL_all n ds]
theorem ints_lay : ∀ ns : List Int, PyData.canLayAll0 (ns.map .int) = true
  | [] => by simp [PyData.canLayAll0]
  | _ :: ns => by
    rw [List.map_cons, PyData.canLayAll0, ints_lay ns]
    rfl
theorem ints_dep : ∀ ns : List Int, PyData.depthAll (ns.map .int) = 0
  | [] => by simp [PyData.depthAll]
  | _ :: ns => by
    rw [List.map_cons, PyData.depthAll, ints_dep ns]
    simp [PyData.depth]
mutual
theorem dep_lay : ∀ (n : Nat) (d : D), dep n d = true → d.py.canLay0 = true ∧ d.py.depth ≤ n
  | n, .non, _ => by simp [D.py, PyData.canLay0, PyData.depth]
  | n, .bl _, _ => by simp [D.py, PyData.canLay0, PyData.depth]
  | n, .int _, _ => by simp [D.py, PyData.canLay0, PyData.depth]
  | n, .str s, h => by
    have h : PyData.strOk s = true := by simpa [dep] using h
    simp [D.py, PyData.canLay0, PyData.depth, h]
  | n + 1, .lst xs, h => by
    obtain ⟨h1, h2⟩ := depL_lay n xs (by simpa [dep] using h)
    simp only [D.py, PyData.canLay0, PyData.depth]
    exact ⟨h1, by omega⟩
  | n + 1, .tup xs, h => by
    obtain ⟨h1, h2⟩ := depL_lay n xs (by simpa [dep] using h)
    simp only [D.py, PyData.canLay0, PyData.depth]
    exact ⟨h1, by omega⟩
  | n + 1, .scr ns, h => by
    simp only [D.py, PyData.canLay0, PyData.depth]
    refine ⟨ints_lay ns, ?_⟩
    rw [ints_dep]
    omega
  | 0, .lst xs, h => by simp [dep] at h
  | 0, .tup xs, h => by simp [dep] at h
  | 0, .scr xs, h => by simp [dep] at h
  | n, .dct xs, h => by simp [dep] at h
  | n, .ins _ xs, h => by simp [dep] at h
  | n, .obj _, h => by simp [dep] at h
theorem depL_lay : ∀ (n : Nat) (d : List D), depL n d = true → PyData.canLayAll0 (D.pyL d) = true ∧ PyData.depthAll (D.pyL d) ≤ n
  | n, [], _ => by simp [D.pyL, PyData.canLayAll0, PyData.depthAll]
  | n, d :: ds, h => by
    obtain ⟨h1, h2⟩ := Bool.and_eq_true_iff.mp (show (dep n d && depL n ds) = true by simpa [depL] using h)
    obtain ⟨a1, a2⟩ := dep_lay n d h1
    obtain ⟨b1, b2⟩ := depL_lay n ds h2
    simp only [D.pyL, PyData.canLayAll0, PyData.depthAll, a1, b1]
    exact ⟨rfl, by omega⟩
end
theorem dep_shaped {n : Nat} {d : D} (h : dep n d = true) (hn : n ≤ 64) : SeqAt.shaped d.py = true := by
  obtain ⟨h1, h2⟩ := dep_lay n d h
  unfold SeqAt.shaped
  rw [h1]
  exact decide_eq_true (by omega)
section
variable {K : PySem.W.Frag} {I H : Hp}
theorem ints_dp : ∀ ns : List Int, DpAll K I (ns.map V.int) (ns.map .int)
  | [] => .nil
  | n :: ns => .cons (.int n) (ints_dp ns)
mutual
theorem Rep.dp (x : Le I H) : ∀ {n : Nat} {v : V} {d : D}, Rep K I v d → dep n d = true → Dp K H v d.py
  | _, _, _, .non, _ => by simp only [D.py]; exact .non
  | _, _, _, .bl b, _ => by simp only [D.py]; exact .bl b
  | _, _, _, .int b, _ => by simp only [D.py]; exact .int b
  | _, _, _, .str b, _ => by simp only [D.py]; exact .str b
  | 0, _, _, .lst h r, i => by simp [dep] at i
  | n + 1, _, _, .lst h r, i => by
    simp only [D.py]
    exact .lst (x.sqL (.inl (.inl h))) (r.dp x (n := n) (by simpa [dep] using i))
  | 0, _, _, .tup h r, i => by simp [dep] at i
  | n + 1, _, _, .tup h r, i => by
    simp only [D.py]
    exact .tup (x.sqT h) (r.dp x (n := n) (by simpa [dep] using i))
  | _, _, _, .dct h r, i => by simp [dep] at i
  | _, _, _, .ins h r, i => by simp [dep] at i
  | _, _, _, .scr h, i => by
    simp only [D.py]
    exact .lst (x.sqL h) (ints_dp _)
  | _, _, _, .obj v, i => by simp [dep] at i
theorem RepL.dp (x : Le I H) : ∀ {n : Nat} {v : List V} {d : List D}, RepL K I v d → depL n d = true → DpAll K H v (D.pyL d)
  | _, _, _, .nil, _ => by simp only [D.pyL]; exact .nil
  | n, _, _, .cons h r, i => by
    obtain ⟨h1, h2⟩ := Bool.and_eq_true_iff.mp (show (dep n _ && depL n _) = true by simpa [depL] using i)
    simp only [D.pyL]
    exact .cons (h.dp x h1) (r.dp x h2)
end
end
/-- == of plain data -/
def eqD (d e : D) : Bool := PyData.eqv d.py e.py
def eqW : W2
  | .str a, .str b, P => P (.bl (decide (a = b)))
  | d, e, P => (∃ n, n ≤ 64 ∧ dep n d = true ∧ dep n e = true) ∧ P (.bl (eqD d e))
def neW : W2
  | .str a, .str b, P => P (.bl (!decide (a = b)))
  | d, e, P => (∃ n, n ≤ 64 ∧ dep n d = true ∧ dep n e = true) ∧ P (.bl (!eqD d e))

section
variable {K : PySem.W.Frag} {Z : Res} {n : Nat} {I H : Hp} {p : Addr} {vs : List V} {ds : List D}
theorem mk_lst (w : Wk Z n I H) (hp : H p = none) (r : RepL K I vs ds) : Rep K (upd I p (.lst vs)) (.ref p) (.lst ds) := .lst upd_same (r.mono (Le.new (w.ih.free hp)))
theorem mk_tup (w : Wk Z n I H) (hp : H p = none) (r : RepL K I vs ds) : Rep K (upd I p (.tup vs)) (.ref p) (.tup ds) := .tup (.inl (.inl upd_same)) (r.mono (Le.new (w.ih.free hp)))
end
/-! ### + - * // % ** -/
def addW : W2
  | .int i, .int j, P => P (.int (i + j))
  | .str a, .str b, P => a.length + b.length ≤ sizeLine ∧ P (.str (a ++ b))
  | .lst a, .lst b, P => a.length + b.length ≤ sizeLine ∧ P (.lst (a ++ b))
  | .tup a, .tup b, P => a.length + b.length ≤ sizeLine ∧ P (.tup (a ++ b))
  | _, _, _ => False
def addF : W2
  | .lst a, .lst b, P => a.length + b.length ≤ sizeLine ∧ P (.lst (a ++ b))
  | _, _, _ => False
def iiW (C : Int → Int → Prop) (f : Int → Int → Int) : W2
  | .int i, .int j, P => C i j ∧ P (.int (f i j))
  | _, _, _ => False
def ciW (f : Int → Int → Bool) (g : Str → Str → Bool) : W2
  | .int i, .int j, P => P (.bl (f i j))
  | .str i, .str j, P => P (.bl (g i j))
  | _, _, _ => False
section
variable {K : PySem.W.Frag}
theorem opd_ii {C : Int → Int → Prop} {f : Int → Int → Int} : OpD K (rI C fun i j => .int (f i j)) (iiW C f) := fun Z n I H x y d e P Q w rx ry hf hq => by
  cases rx <;> try exact hf.elim
  cases ry <;> try exact hf.elim
  exact ⟨_, _, rfl, rfl, hf.1, hq _ _ I H w.refl (.int _) hf.2⟩
abbrev rAdds (K : PySem.W.Frag) : R2 := fun x y H Q => (rI0 (fun i j => .int (i + j)) x y H Q ∨ (∃ i j, x = .str i ∧ y = .str j ∧ i.length + j.length ≤ sizeLine ∧ Q (.str (i ++ j)) H)) ∨ (rCat x y H Q ∨ rCatA K x y H Q)
theorem opd_add : OpD K (rAdds K) addW := fun Z n I H x y d e P Q w rx ry hf hq => by
  cases rx with
  | int i => cases ry with
    | int j => exact .inl (.inl ⟨i, j, rfl, rfl, hq _ _ I H w.refl (.int _) hf⟩)
    | _ => exact hf.elim
  | str i => cases ry with
    | str j => exact .inl (.inr ⟨i, j, rfl, rfl, hf.1, hq _ _ I H w.refl (.str _) hf.2⟩)
    | _ => exact hf.elim
  | lst h r => cases ry with
    | lst h' r' =>
      refine .inr (.inl ⟨_, _, _, _, rfl, rfl, w.ih _ _ h, w.ih _ _ h', by rw [r.length, r'.length]; exact hf.1, fun p hp => ?_⟩)
      exact hq _ _ _ _ (w.laid hp) (mk_lst w hp (r.append r')) hf.2
    | _ => exact hf.elim
  | tup h r => cases ry with
    | tup h' r' =>
      refine .inr (.inr ⟨_, _, _, _, rfl, rfl, w.ih.sqT h, w.ih.sqT h', by rw [r.length, r'.length]; exact hf.1, fun e => ?_, fun _ e => ?_, fun _ _ p hp => ?_⟩)
      · subst e
        cases r
        exact hq _ _ I H w.refl (.tup h' r') hf.2
      · subst e
        cases r'
        exact hq _ _ I H w.refl (.tup h r) (by simpa using hf.2)
      · exact hq _ _ _ _ (w.laid hp) (mk_tup w hp (r.append r')) hf.2
    | _ => exact hf.elim
  | _ => exact hf.elim
theorem opf_add : OpF K rCat addF := fun Z n I H x y d e P Q w rx ry hf hq => by
  cases rx with
  | lst h r => cases ry with
    | lst h' r' =>
      refine ⟨_, _, _, _, rfl, rfl, w.ih _ _ h, w.ih _ _ h', by rw [r.length, r'.length]; exact hf.1, fun p hp => ?_⟩
      exact hq (.lst _) p _ _ (w.young hp) hp (w.ih.free hp) (w.nf hp) ⟨_, upd_same, r.append r'⟩ hf.2
    | _ => exact hf.elim
  | _ => exact hf.elim
theorem strV {a b : Str} : decide (V.str a = V.str b) = decide (a = b) := by
  by_cases h : a = b
  · simp [h]
  · simp [h]
theorem opd_eq : OpD K (fun x y H Q => rEqD K x y H Q ∨ rEq x y H Q) eqW := fun Z n I H x y d e P Q w rx ry hf hq => by
  unfold eqW at hf
  split at hf
  · cases rx
    cases ry
    exact .inr ⟨rfl, by rw [strV]; exact hq _ _ I H w.refl (.bl _) hf⟩
  · obtain ⟨⟨_, hn, h1, h2⟩, hP⟩ := hf
    exact .inl ⟨_, _, rx.dp w.ih h1, ry.dp w.ih h2, dep_shaped h1 hn, dep_shaped h2 hn, hq _ _ I H w.refl (.bl _) hP⟩
theorem opd_ne : OpD K (fun x y H Q => rNeD K x y H Q ∨ rNe x y H Q) neW := fun Z n I H x y d e P Q w rx ry hf hq => by
  unfold neW at hf
  split at hf
  · cases rx
    cases ry
    exact .inr ⟨rfl, by rw [strV]; exact hq _ _ I H w.refl (.bl _) hf⟩
  · obtain ⟨⟨_, hn, h1, h2⟩, hP⟩ := hf
    exact .inl ⟨_, _, rx.dp w.ih h1, ry.dp w.ih h2, dep_shaped h1 hn, dep_shaped h2 hn, hq _ _ I H w.refl (.bl _) hP⟩
abbrev rCi (f : Int → Int → Bool) (g : Str → Str → Bool) : R2 := fun x y H Q => rI0 (fun i j => .bl (f i j)) x y H Q ∨ (∃ i j, x = .str i ∧ y = .str j ∧ Q (.bl (g i j)) H)
theorem opd_ci {f : Int → Int → Bool} {g : Str → Str → Bool} : OpD K (rCi f g) (ciW f g) := fun Z n I H x y d e P Q w rx ry hf hq => by
  cases rx with
  | int i => cases ry with
    | int j => exact .inl ⟨i, j, rfl, rfl, hq _ _ I H w.refl (.bl _) hf⟩
    | _ => exact hf.elim
  | str i => cases ry with
    | str j => exact .inr ⟨i, j, rfl, rfl, hq _ _ I H w.refl (.bl _) hf⟩
    | _ => exact hf.elim
  | _ => exact hf.elim
end
section
variable {X : Cx} {E : XK} {a b : Expr} {pos : Pos} {wa wb : WE}
theorem de_add (ha : DE X E a wa) (hb : DE X E b wb) : DE X E (.BinOp a .Add b pos) (wOp addW wa wb) := by
  obtain ⟨_, pa, sa⟩ := ha
  obtain ⟨_, pb, sb⟩ := hb
  exact ⟨_, pe_op ((op_add.or op_add_str).or (op_cat.or op_catA)) pa pb, SE.op opd_add sa sb⟩
theorem df_add (ha : DE X E a wa) (hb : DE X E b wb) : DF X E (.BinOp a .Add b pos) (wOp addF wa wb) := by
  obtain ⟨_, pa, sa⟩ := ha
  obtain ⟨_, pb, sb⟩ := hb
  exact ⟨_, pe_op op_cat pa pb, SF.op opf_add sa sb⟩
def subW : W2 := iiW (fun _ _ => True) (· - ·)
theorem de_op {op : Operator} {r : R2} {f : W2} (ho : OpR X (binaryOp op) r) (hd : OpD X.K r f) (ha : DE X E a wa) (hb : DE X E b wb) : DE X E (.BinOp a op b pos) (wOp f wa wb) := by
  obtain ⟨_, pa, sa⟩ := ha
  obtain ⟨_, pb, sb⟩ := hb
  exact ⟨_, pe_op ho pa pb, SE.op hd sa sb⟩
theorem de_cmp {op : CmpOp} {r : R2} {f : W2} (ho : OpR X (compareOp op) r) (hd : OpD X.K r f) (ha : DE X E a wa) (hb : DE X E b wb) (hm : behindInMarks op b = false) : DE X E (.Compare a [op] [b] pos) (wOp f wa wb) := by
  obtain ⟨_, pa, sa⟩ := ha
  obtain ⟨_, pb, sb⟩ := hb
  exact ⟨_, pe_cmpR ho pa pb hm, SE.op hd sa sb⟩
theorem rI_true {f : Int → Int → V} : OpR X (binaryOp .Sub) (rI0 f) → OpR X (binaryOp .Sub) (rI (fun _ _ => True) f) := fun h pins s σ H x y v u Q I rx ry ⟨i, j, e1, e2, _, q⟩ => h pins s σ H x y v u Q I rx ry ⟨i, j, e1, e2, q⟩
theorem de_sub (ha : DE X E a wa) (hb : DE X E b wb) : DE X E (.BinOp a .Sub b pos) (wOp subW wa wb) := de_op (rI_true op_sub) opd_ii ha hb
end
end Dt

/-! DtD: defs and their contracts; statements; loops. -/
namespace Dt
open PySem L2

/-! ### contexts -/
structure Gx (X : Cx) (E : XK) (k : Nat) (q : Bool) : Prop where
  pass : Passes (L2.CX X.prog X.w) X E
  own : PassesOwn (model X.prog X.w) X.A X.env X.xe
  calm : X.calm = true
  room : Room k X.A
  gd : q = true → X.A.guards = some []
  nd : X.N.Nodup
  tk : L2.Takes X (fun cls d _ H => E cls d H)
theorem Gx.u65 {X : Cx} {E : XK} {k : Nat} {q : Bool} (g : Gx X E k q) : X.A.units + 65 < cLine := by
  have := g.room.un
  omega
theorem Gx.u64 {X : Cx} {E : XK} {k : Nat} {q : Bool} (g : Gx X E k q) : X.A.units + 64 < cLine := by
  have := g.room.un
  omega
theorem Gx.u1 {X : Cx} {E : XK} {k : Nat} {q : Bool} (g : Gx X E k q) : X.A.units + 1 < cLine := by
  have := g.room.un
  omega
theorem Gx.blk {X : Cx} {E : XK} {k : Nat} {q : Bool} (g : Gx X E k q) {s : Shared} {H : Hp} {scope : Scope} {cenv : Env} {fp : List Addr} : Gx (X.blk s H scope cenv fp) E0 k q :=
  ⟨passL, PassesOwn.never, g.calm, g.room, g.gd, g.nd, fun u s' ⟨_, _, _, _, _, _, _, _, _, _, _, _, _, _, _, _, w⟩ => w.elim⟩

/-! ### contracts -/
abbrev Con := Ct → Nat → List D → (Nat → D → Prop) → Prop
def spOf (K : PySem.W.Frag) (cf : Con) : Sp := fun vs H Q E => ∃ (Z : Res) (n : Nat) (I : Hp) (ds : List D) (P : Nat → D → Prop) (cx : Nat → Xn → Prop),
  Wk Z n I H ∧ RepL K I vs ds ∧ cf ⟨Z, cx⟩ n ds P ∧ (∀ d v n' I' H', Stp Z I H n' I' H' → Rep K I' v d → P n' d → Q v H') ∧ XR K E Z I H cx
structure FnG (P : Program) (w : World) (K : PySem.W.Frag) (mg : Str → Option Value) (base : Heap) (k : Nat) (f : Addr) (fd : FuncData) (ps : List Str) (sp : Sp) : Prop where
  len : ∀ vs H Q E, sp vs H Q E → vs.length = ps.length
  run : ∀ (A : Around) (outer : List Env) (s : Shared) (H : Hp) (args : Args) (us : List Value) (vs : List V) (Q : VK) (E : XK), A.guards = some [] → Room k A → Env0 P w K mg base A outer s H → BindsTo s fd args (ps.zip us) → Vals vs us → sp vs H Q E →
    codeAny (model P w) A (.call (.ref f) args) (CR (L2.CX P w) outer P w H s Q E) s
theorem FnG.mono {P : Program} {w : World} {K : PySem.W.Frag} {mg : Str → Option Value} {base : Heap} {j k : Nat} {f : Addr} {fd : FuncData} {ps : List Str} {sp : Sp} (F : FnG P w K mg base j f fd ps sp) (h : j ≤ k) : FnG P w K mg base k f fd ps sp :=
  ⟨F.len, fun A outer s H args us vs Q E hg hr => F.run A outer s H args us vs Q E hg (hr.mono h)⟩
theorem FnG.imp {P : Program} {w : World} {K : PySem.W.Frag} {mg : Str → Option Value} {base : Heap} {k : Nat} {f : Addr} {fd : FuncData} {ps : List Str} {sp sp' : Sp} (F : FnG P w K mg base k f fd ps sp) (h : ∀ vs H Q E, sp' vs H Q E → sp vs H Q E) : FnG P w K mg base k f fd ps sp' :=
  ⟨fun vs H Q E q => F.len vs H Q E (h _ _ _ _ q), fun A outer s H args us vs Q E hg hr he hb hv hs => F.run A outer s H args us vs Q E hg hr he hb hv (h _ _ _ _ hs)⟩

/-- a def by its body -/
theorem fnG_of {P : Program} {w : World} {K : PySem.W.Frag} {mg : Str → Option Value} {base : Heap} {k : Nat} {x qual : Str} {params : Arguments} {body : List Stmt} {scope : Scope} {dvs : List V} {kws : List (Str × V)} {f : Addr} {fd : FuncData} {N ps : List Str} {sp : Sp}
    (F : FunD K x qual params body scope dvs kws f fd) (S : FnScope N ps scope) (len : ∀ vs H Q E, sp vs H Q E → vs.length = ps.length)
    (hbody : ∀ (cdv : Value) (A : Around) (outer : List Env) (s : Shared) (H : Hp) (vs : List V) (Q : VK) (E : XK), Gx (cxOf (L2.CX P w) P w K mg base N qual scope f cdv A outer s H E) E k true → sp vs H Q E →
      ∃ t, PSs (cxOf (L2.CX P w) P w K mg base N qual scope f cdv A outer s H E) body t ∧ t { nx := fun _ H' => Q .non H', rt := Q } (start N vs) H) : FnG P w K mg base (k + 1) f fd ps sp := by
  obtain ⟨oc, od, dV, kV, doc, pm, an, cdv, ct, osl, rfl, lk, hcd, _, _⟩ := F.ex
  refine ⟨len, fun A outer s H args us vs Q E hgd hr e0 hb r hsp => ?_⟩
  have hl := len _ _ _ _ hsp
  have kin : K.In s.heap := e0.mod.kin.keeps fun b o e => (e0.bs b o e).1
  have lim := e0.mod.nolimit.keeps (h' := s.heap) fun b o e => (e0.bs b o e).1
  have kinds : ∀ y ∈ ps.zip us, scope.names.lookup y.1 = some .local ∨ (scope.names.lookup y.1 = some .cell ∧ ((cellsFrom (s.heap.objs.size + 1) scope.names []).lookup y.1).isSome = true) := by
    rintro ⟨n, v⟩ hy
    cases S.par n (List.of_mem_zip hy).1 with
    | inl q => exact .inl q
    | inr q => exact .inr ⟨q, PySem.W.cellsFrom_some _ _ _ (.inl q)⟩
  refine codeAny_call_function hr.depth (kin _ _ lk) rfl S.co S.gen rfl (PySem.W.codeRec_of kin hcd) (hb _ _ _ _ (wpAny_newFunctionEnv_cells S.kind kinds fun env he s1 x1 => ?_))
  subst he
  refine ⟨lim.keeps x1.toInCall.keep, codeAny_func ?_⟩
  have I := inv_start (CX := L2.CX P w) (E := E) (cd := cdv) (qual := qual) (f := f) S hr.hd e0 hl r x1
  obtain ⟨t, ht, hq⟩ := hbody cdv A outer s H vs Q E ⟨passes_call (takes_of rfl rfl rfl rfl) (fun _ _ _ _ h => h), passes_of rfl, rfl, hr.deeper _, fun _ => hgd, S.nd, takes_of rfl rfl rfl rfl⟩ hsp
  refine wpAny_mono (ht.run [] s1 (start N vs) H _ I hq) (fun fl s' hs => ?_) fun e s' hs => hs
  cases fl with
  | ret u =>
    obtain ⟨v, σ', H', J, rv, q⟩ := hs
    exact ⟨v, H', J.os, J.bare, J.base, J.hok, rv, q⟩
  | next =>
    obtain ⟨σ', H', J, q⟩ := hs
    exact ⟨V.non, H', J.os, J.bare, J.base, J.hok, rfl, q⟩
  | brk =>
    obtain ⟨_, _, _, q⟩ := hs
    exact q.elim
  | cont =>
    obtain ⟨_, _, _, q⟩ := hs
    exact q.elim

def δ0 (N : List Str) (ds : List D) : List Sl := ds.map Sl.v ++ List.replicate (N.length - ds.length) Sl.un
theorem Ev.start {K : PySem.W.Frag} {Z : Res} {n : Nat} {I H : Hp} {N : List Str} {vs : List V} {ds : List D} (w : Wk Z n I H) (r : RepL K I vs ds) : Ev K Z I H n (δ0 N ds) (L2.start N vs) I H where
  st := w.refl
  len := by
    unfold δ0 L2.start
    rw [List.length_append, List.length_append, List.length_map, List.length_map, List.length_replicate, List.length_replicate, r.length]
  vals := fun i d h => by
    unfold δ0 at h
    have hi : i < ds.length := by
      by_cases hi : i < ds.length
      · exact hi
      · rw [List.getElem?_append_right (by simpa using hi), List.getElem?_replicate] at h
        split at h <;> cases h
    rw [List.getElem?_append_left (by simpa using hi), List.getElem?_map] at h
    cases q : ds[i]? with
    | none => rw [q] at h; cases h
    | some e =>
      rw [q] at h
      cases h
      obtain ⟨y, h1, h2⟩ := r.get q
      refine ⟨y, ?_, h2⟩
      unfold L2.start
      rw [List.getElem?_append_left (by rw [List.length_map, r.length]; exact hi), List.getElem?_map, h1]
      rfl
  owns := fun i d h => by
    unfold δ0 at h
    by_cases hi : i < ds.length
    · rw [List.getElem?_append_left (by simpa using hi), List.getElem?_map] at h
      cases q : ds[i]? with
      | none => rw [q] at h; cases h
      | some e => rw [q] at h; cases h
    · rw [List.getElem?_append_right (by simpa using hi), List.getElem?_replicate] at h
      split at h <;> cases h
  sep := fun i j d e a h _ _ _ => by
    unfold δ0 at h
    by_cases hi : i < ds.length
    · rw [List.getElem?_append_left (by simpa using hi), List.getElem?_map] at h
      cases q : ds[i]? with
      | none => rw [q] at h; cases h
      | some e => rw [q] at h; cases h
    · rw [List.getElem?_append_right (by simpa using hi), List.getElem?_replicate] at h
      split at h <;> cases h

/-- a def's contract by the reading of its body -/
theorem con_of {P : Program} {w : World} {K : PySem.W.Frag} {mg : Str → Option Value} {base : Heap} {k : Nat} {x qual : Str} {params : Arguments} {body : List Stmt} {scope : Scope} {dvs : List V} {kws : List (Str × V)} {f : Addr} {fd : FuncData} {N ps : List Str} {cf : Con}
    (F : FunD K x qual params body scope dvs kws f fd) (S : FnScope N ps scope) (len : ∀ c n ds P, cf c n ds P → ds.length = ps.length)
    (hbody : ∀ (cdv : Value) (A : Around) (outer : List Env) (s : Shared) (H : Hp) (E : XK), Gx (cxOf (L2.CX P w) P w K mg base N qual scope f cdv A outer s H E) E k true →
      ∃ wp, DSs (cxOf (L2.CX P w) P w K mg base N qual scope f cdv A outer s H E) E body wp ∧ ∀ c n ds P, cf c n ds P → wp c ⟨fun m _ => P m .non, P, fun _ _ => False, fun _ _ => False⟩ n (δ0 N ds)) : FnG P w K mg base (k + 1) f fd ps (spOf K cf) := by
  refine fnG_of F S (fun vs H Q E ⟨Z, n, I, ds, P, cx, hw, hr, hc, _⟩ => by rw [hr.length]; exact len _ _ _ _ hc) fun cdv A outer s H vs Q E g ⟨Z, n, I, ds, P, cx, hw, hr, hc, hq, hx⟩ => ?_
  obtain ⟨wp, ⟨t, pt, st⟩, hb⟩ := hbody cdv A outer s H E g
  refine ⟨t, pt, st Z I H cx ⟨fun m _ => P m .non, P, fun _ _ => False, fun _ _ => False⟩ _ n _ _ I H hx ⟨fun m δ σ I' H' _ e h => hq _ _ m _ _ e.st .non h, fun d v m I' H' s r h => hq d v m I' H' s r h, fun _ _ _ _ _ _ _ h => h.elim, fun _ _ _ _ _ _ _ h => h.elim⟩ (Ev.start hw hr) (hb ⟨Z, cx⟩ n ds P hc)⟩

/-- .. a def that tells no repr -/
theorem conO_of {P : Program} {w : World} {K : PySem.W.Frag} {mg : Str → Option Value} {base : Heap} {k : Nat} {x qual : Str} {params : Arguments} {body : List Stmt} {scope : Scope} {dvs : List V} {kws : List (Str × V)} {f : Addr} {fd : FuncData} {N ps : List Str} {cf : Con}
    (F : FunD K x qual params body scope dvs kws f fd) (S : FnScope N ps scope) (len : ∀ c n ds P, cf c n ds P → ds.length = ps.length)
    (hbody : ∀ (cdv : Value) (A : Around) (outer : List Env) (s : Shared) (H : Hp) (E : XK), Gx (cxOf (L2.CX P w) P w K mg base N qual scope f cdv A outer s H E) E k false →
      ∃ wp, DSs (cxOf (L2.CX P w) P w K mg base N qual scope f cdv A outer s H E) E body wp ∧ ∀ c n ds P, cf c n ds P → wp c ⟨fun m _ => P m .non, P, fun _ _ => False, fun _ _ => False⟩ n (δ0 N ds)) : FnOk P w K mg base (L2.CX P w) (k + 1) f fd ps (spOf K cf) := by
  obtain ⟨oc, od, dV, kV, doc, pm, an, cdv, ct, osl, rfl, lk, hcd, _, _⟩ := F.ex
  refine fn_of lk hcd S (fun vs H Q E ⟨Z, n, I, ds, P, cx, hw, hr, hc, _⟩ => by rw [hr.length]; exact len _ _ _ _ hc) fun A outer s H vs Q E hroom ⟨Z, n, I, ds, P, cx, hw, hr, hc, hq, hx⟩ => ?_
  obtain ⟨wp, ⟨t, pt, st⟩, hb⟩ := hbody cdv A outer s H E ⟨passes_call (takes_of rfl rfl rfl rfl) (fun _ _ _ _ h => h), passes_of rfl, rfl, hroom, (fun z => nomatch z), S.nd, takes_of rfl rfl rfl rfl⟩
  exact ⟨t, pt, st Z I H cx ⟨fun m _ => P m .non, P, fun _ _ => False, fun _ _ => False⟩ _ n _ _ I H hx ⟨fun m δ σ I' H' _ e h => hq _ _ m _ _ e.st .non h, fun d v m I' H' s r h => hq d v m I' H' s r h, fun _ _ _ _ _ _ _ h => h.elim, fun _ _ _ _ _ _ _ h => h.elim⟩ (Ev.start hw hr) (hb ⟨Z, cx⟩ n ds P hc)⟩
structure GFnO (P : Program) (w : World) (K : PySem.W.Frag) (mg : Str → Option Value) (base : Heap) (x : Str) (j : Nat) (cf : Con) : Prop where
  ex : ∃ (f : Addr) (fd : FuncData) (ps : List Str), FnOk P w K mg base (L2.CX P w) j f fd ps (spOf K cf) ∧ mg x = some (.ref f) ∧ PySem.W.keepIn K (.ref f) = true ∧ Binds K fd ps []
/-- a def of the module by its name: contract, level -/
structure GFn (P : Program) (w : World) (K : PySem.W.Frag) (mg : Str → Option Value) (base : Heap) (x : Str) (j : Nat) (cf : Con) : Prop where
  ex : ∃ (f : Addr) (fd : FuncData) (ps : List Str), FnG P w K mg base j f fd ps (spOf K cf) ∧ mg x = some (.ref f) ∧ PySem.W.keepIn K (.ref f) = true ∧ Binds K fd ps []

section
variable {X : Cx} {E : XK} {k j : Nat} {x : Str} {p pos : Pos} {e : Expr} {es : List Expr} {wa : WA} {cf : Con}
theorem run_g {pins : List (Addr × Obj)} {σ : L2.St} {H : Hp} {s : Shared} {Q : VK} {us ds : List Value} {vs dvs : List V} {f : Addr} {fd : FuncData} {ps : List Str} {sp : Sp} (g : Gx X E k true) (hj : j ≤ k) (F : FnG X.prog X.w X.K X.mg X.base j f fd ps sp) (hb : Binds X.K fd ps ds) (hd : Vals dvs ds)
    (I : Inv X pins σ H s) (r : Vals vs us) (h : sp (vs ++ dvs) H Q E) : wpAny (model X.prog X.w) X.A (call (.ref f) us) (EP X pins σ Q) X.xe s := by
  have r2 : Vals (vs ++ dvs) (us ++ ds) := r.append hd
  have hl : (us ++ ds).length = ps.length := by
    rw [← r2.length]
    exact F.len _ _ _ _ h
  refine wpAny_call (codeAny_mono (F.run X.A X.stack s H ⟨us, []⟩ _ _ Q E (g.gd rfl) (g.room.mono hj) I.env0 (hb s us I.kIn hl) r2 h) fun res s' hq => ?_)
  match res, hq with
  | .error e, hq => exact g.pass pins σ H s e s' I hq
  | .ok (.ret u), hq => exact I.after hq
  | .ok .next, hq => exact hq.elim
  | .ok .brk, hq => exact hq.elim
  | .ok .cont, hq => exact hq.elim
def wCall (cf : Con) (wa : WA) : WE := fun c n δ P => wa c n δ fun n1 ds => cf c n1 ds P
theorem de_call (g : Gx X E k true) (F : GFn X.prog X.w X.K X.mg X.base x j cf) (ha : DA X E (e :: es) wa) (hj : j ≤ k := by decide) (hg : Gl X x := by rfl) (hdb : (x == ("__debug__" : Str)) = false := by decide)
    (he : starEach (e :: es) X.env = (false, eval e X.env) :: starEach es X.env := by rfl) (hpl : (backTo pos (starEach es X.env)).any (·.1) = false := by rfl) : DE X E (.Call (.Name x p) (e :: es) [] pos) (wCall cf wa) := by
  obtain ⟨f, fd, ps, F, hm, hk, hb⟩ := F.ex
  obtain ⟨t, pa, sa⟩ := ha
  refine ⟨fun σ H Q => t σ H fun vs H1 => spOf X.K cf vs H1 Q E, ⟨fun pins s σ H Q I h => ?_⟩, fun Z I0 H0 cx n δ σ I H P Q hx he hw hq => ?_⟩
  · refine wpAny_Call_Name_kw (ld_glob I hg hm (PySem.W.callWith_K (h₀ := X.base) I.ok.mod.kin hk (thn (pa.run pos pins s σ H _ I h) fun us s1 ⟨vs, H1, I1, r, q⟩ => ⟨I1.kIn, ?_⟩) he hpl) hdb)
    exact run_g (ds := []) (dvs := []) g hj F hb .nil I1 r (by rw [List.append_nil]; exact q)
  · exact sa Z I0 H0 cx n δ σ I H _ _ hx he hw fun ds vs n1 I1 H1 s1 r1 h1 => ⟨Z, n1, I1, ds, P, cx, s1.wk, r1, h1, fun d v n2 I2 H2 s2 => hq d v n2 I2 H2 (s1.trans s2), fun y d n2 I2 H2 s2 => hx y d n2 I2 H2 ((he.st.trans s1).trans s2)⟩
theorem de_callO {q : Bool} (g : Gx X E k q) (F : GFnO X.prog X.w X.K X.mg X.base x j cf) (ha : DA X E (e :: es) wa) (hj : j ≤ k := by decide) (hg : Gl X x := by rfl) (hdb : (x == ("__debug__" : Str)) = false := by decide)
    (he : starEach (e :: es) X.env = (false, eval e X.env) :: starEach es X.env := by rfl) (hpl : (backTo pos (starEach es X.env)).any (·.1) = false := by rfl) : DE X E (.Call (.Name x p) (e :: es) [] pos) (wCall cf wa) := by
  obtain ⟨f, fd, ps, F, hm, hk, hb⟩ := F.ex
  obtain ⟨t, pa, sa⟩ := ha
  refine ⟨_, L2.pe_call F (g.room.mono hj) hg hm hk hb .nil g.pass pa hdb he hpl, fun Z I0 H0 cx n δ σ I H P Q hx he hw hq => ?_⟩
  refine sa Z I0 H0 cx n δ σ I H _ _ hx he hw fun ds vs n1 I1 H1 s1 r1 h1 => ?_
  show spOf X.K cf (vs ++ []) H1 Q E
  rw [List.append_nil]
  exact ⟨Z, n1, I1, ds, P, cx, s1.wk, r1, h1, fun d v n2 I2 H2 s2 => hq d v n2 I2 H2 (s1.trans s2), fun y d n2 I2 H2 s2 => hx y d n2 I2 H2 ((he.st.trans s1).trans s2)⟩
theorem de_call0 (g : Gx X E k true) (F : GFn X.prog X.w X.K X.mg X.base x j cf) (hj : j ≤ k := by decide) (hg : Gl X x := by rfl) (hdb : (x == ("__debug__" : Str)) = false := by decide) : DE X E (.Call (.Name x p) [] [] pos) (fun c n _ P => cf c n [] P) := by
  obtain ⟨f, fd, ps, F, hm, hk, hb⟩ := F.ex
  refine ⟨fun σ H Q => spOf X.K cf [] H Q E, ⟨fun pins s σ H Q I h => ?_⟩, fun Z I0 H0 cx n δ σ I H P Q hx he hw hq => ?_⟩
  · refine wpAny_Call_Name_kw (ld_glob I hg hm (PySem.W.callWith_K0 I.kIn hk ?_) hdb)
    exact run_g (us := []) (vs := []) (ds := []) (dvs := []) g hj F hb .nil I .nil h
  · exact ⟨Z, n, I, [], P, cx, he.wk, .nil, hw, hq, fun y d n2 I2 H2 s2 => hx y d n2 I2 H2 (he.st.trans s2)⟩
end
/-! ### arguments, displays -/
section
variable {X : Cx} {E : XK} {e : Expr} {es : List Expr} {wa : WE} {wr : WA} {pos : Pos}
def wNil : WA := fun _ n _ P => P n []
def wCons (wa : WE) (wr : WA) : WA := fun c n δ P => wa c n δ fun n1 d => wr c n1 δ fun n2 ds => P n2 (d :: ds)
theorem da_nil : DA X E [] wNil := ⟨_, pa_nil, fun Z I0 H0 cx n δ σ I H P Q hx he hw hq => hq [] [] n I H he.wk.refl .nil hw⟩
theorem da_cons (ha : DE X E e wa) (hr : DA X E es wr) (hs : starEach (e :: es) X.env = (false, eval e X.env) :: starEach es X.env := by rfl) : DA X E (e :: es) (wCons wa wr) := by
  obtain ⟨_, pa, sa⟩ := ha
  obtain ⟨_, pr, sr⟩ := hr
  exact ⟨_, pa_cons pa pr hs, fun Z I0 H0 cx n δ σ I H P Q hx he hw hq =>
    sa Z I0 H0 cx n δ σ I H _ _ hx he hw fun d v n1 I1 H1 s1 r1 h1 => sr Z I0 H0 cx n1 δ σ I1 H1 _ _ hx (he.step s1) h1 fun ds vs n2 I2 H2 s2 r2 h2 => hq (d :: ds) (v :: vs) n2 I2 H2 (s1.trans s2) (.cons (r1.mono s2.ex) r2) h2⟩
def wTup (wr : WA) : WE := fun c n δ P => wr c n δ fun n1 ds => ds.length ≤ sizeLine ∧ P n1 (.tup ds)
def wLst (wr : WA) : WE := fun c n δ P => wr c n δ fun n1 ds => ds.length ≤ sizeLine ∧ P n1 (.lst ds)
theorem de_tup {x1} (h : DA X E es wr) : DE X E (.Tuple es x1 pos) (wTup wr) := by
  obtain ⟨_, p, s⟩ := h
  exact ⟨_, pe_tup p, fun Z I0 H0 cx n δ σ I H P Q hx he hw hq => s Z I0 H0 cx n δ σ I H _ _ hx he hw fun ds vs n1 I1 H1 s1 r1 h1 =>
    ⟨by rw [r1.length]; exact h1.1, fun q hq2 => hq _ _ _ _ _ (s1.trans (s1.wk.laid hq2)) (mk_tup s1.wk hq2 r1) h1.2⟩⟩
theorem df_lst (h : DA X E es wr) : DF X E (.List es pos) (wLst wr) := by
  obtain ⟨_, p, s⟩ := h
  refine ⟨_, pe_lst p, fun Z I0 H0 cx n δ σ I H P Q hx he hw hq => s Z I0 H0 cx n δ σ I H _ _ hx he hw fun ds vs n1 I1 H1 s1 r1 h1 => ⟨by rw [r1.length]; exact h1.1, fun q hq2 => ?_⟩⟩
  refine hq (.lst ds) q _ _ _ (s1.trans (s1.wk.young hq2)) ?_ (s1.wk.ih.free hq2) (s1.wk.nf hq2) ⟨vs, upd_same, r1⟩ h1.2
  cases z : H q with
  | none => rfl
  | some o => exact absurd hq2 (s1.live (by rw [z]; exact fun y => nomatch y))
end
end Dt

/-! DtE: tests, statements, loops, comprehensions. -/
namespace Dt
open PySem L2

/-! ### tests -/
def truW : D → (Bool → Prop) → Prop
  | .non, P => P false
  | .bl b, P => P b
  | .int i, P => P (i != 0)
  | .str s, P => s.length ≤ sizeLine ∧ P ((s.length : Int) != 0)
  | .lst xs, P => P (!xs.isEmpty)
  | .tup xs, P => P (!xs.isEmpty)
  | .dct xs, P => P (!xs.isEmpty)
  | _, _ => False
def wTru (w : WE) : WT := fun c n δ P => w c n δ fun n1 d => truW d (P n1)
def asB : D → (Bool → Prop) → Prop
  | .bl b, P => P b
  | _, _ => False
def wB (w : WE) : WT := fun c n δ P => w c n δ fun n1 d => asB d (P n1)
def wAnd (wa wb : WT) : WT := fun c n δ P => wa c n δ fun n1 b => if b = true then wb c n1 δ P else P n1 false
def wOr (wa wb : WT) : WT := fun c n δ P => wa c n δ fun n1 b => if b = true then P n1 true else wb c n1 δ P
def wNot (wa : WT) : WT := fun c n δ P => wa c n δ fun n1 b => P n1 (!b)
/-- a test as a value -/
def wV (wt : WT) : WE := fun c n δ P => wt c n δ fun n1 b => P n1 (.bl b)
def DW (X : Cx) (E : XK) (e : Expr) (w : WT) : Prop := ∃ t, PW X e t ∧ ST X.K E t w
theorem DW.dt {X : Cx} {E : XK} {e : Expr} {w : WT} (h : DW X E e w) : DT X E e w := let ⟨t, p, s⟩ := h; ⟨t, p.pt, s⟩
theorem isEmpty_rep {K : PySem.W.Frag} {I : Hp} : ∀ {vs : List V} {ds : List D}, RepL K I vs ds → vs.isEmpty = ds.isEmpty
  | _, _, .nil => rfl
  | _, _, .cons _ _ => rfl
theorem isEmpty_repM {K : PySem.W.Frag} {I : Hp} : ∀ {vs : List (Key × V)} {ds : List (Key × D)}, RepM K I vs ds → vs.isEmpty = ds.isEmpty
  | _, _, .nil => rfl
  | _, _, .cons _ _ => rfl
section
variable {X : Cx} {E : XK} {a b e : Expr} {rest : List Expr} {pos : Pos} {wa wb : WT} {w va vb : WE}
theorem tru_rep {K : PySem.W.Frag} {Z : Res} {n : Nat} {I H : Hp} {v : V} {d : D} {P : Bool → Prop} (wk : Wk Z n I H) (r : Rep K I v d) (h : truW d P) : ∃ k, TruV K v H k ∧ P k := by
  cases r with
  | non => exact ⟨_, rfl, h⟩
  | bl b => exact ⟨_, rfl, h⟩
  | int b => exact ⟨_, rfl, h⟩
  | str b => exact ⟨_, ⟨h.1, rfl⟩, h.2⟩
  | lst g r => exact ⟨_, .inl ⟨_, .inl (.inl (wk.ih _ _ g)), rfl⟩, by rw [isEmpty_rep r]; exact h⟩
  | tup g r => exact ⟨_, .inr (.inl ⟨_, wk.ih.sqT g, rfl⟩), by rw [isEmpty_rep r]; exact h⟩
  | dct g r => exact ⟨_, .inr (.inr ⟨_, wk.ih _ _ g, rfl⟩), by rw [isEmpty_repM r]; exact h⟩
  | _ => exact h.elim
theorem dt_val (h : DE X E e w) (he : ∀ whole, isTrue e X.env whole = (do let v ← whole; standAt e.pos; holding [v] (truthy v)) := by intro _; rfl) : DT X E e (wTru w) := by
  obtain ⟨t, p, s⟩ := h
  exact ⟨_, pt_truth p he, fun Z I0 H0 cx n δ σ I H P Q hx he hw hq => s Z I0 H0 cx n δ σ I H _ _ hx he hw fun d v n1 I1 H1 s1 r1 h1 => by
    obtain ⟨k, h2, h3⟩ := tru_rep s1.wk r1 h1
    exact ⟨k, h2, hq k n1 I1 H1 s1 h3⟩⟩
theorem bl_of {K : PySem.W.Frag} {I : Hp} {v : V} {d : D} {P : Bool → Prop} (r : Rep K I v d) (h : asB d P) : ∃ b, v = .bl b ∧ P b := by
  cases r with
  | bl b => exact ⟨b, rfl, h⟩
  | _ => exact h.elim
theorem dt_cmp {op : CmpOp} {r : R2} {f : W2} (ho : OpR X (compareOp op) r) (hd : OpD X.K r f) (ha : DE X E a va) (hb : DE X E b vb) (hm : behindInMarks op b = false) : DT X E (.Compare a [op] [b] pos) (wB (wOp f va vb)) := by
  obtain ⟨_, pa, sa⟩ := ha
  obtain ⟨_, pb, sb⟩ := hb
  exact ⟨_, pt_cmpR ho pa pb hm, fun Z I0 H0 cx n δ σ I H P Q hx he hw hq => SE.op hd sa sb Z I0 H0 cx n δ σ I H _ _ hx he hw fun d v n1 I1 H1 s1 r1 h1 => by
    obtain ⟨c, e1, h2⟩ := bl_of r1 h1
    exact ⟨c, e1, hq c n1 I1 H1 s1 h2⟩⟩
theorem ST.and {K : PySem.W.Frag} {t u : TT} (ha : ST K E t wa) (hb : ST K E u wb) : ST K E (tAnd t u) (wAnd wa wb) := fun Z I0 H0 cx n δ σ I H P Q hx he hw hq => ha Z I0 H0 cx n δ σ I H _ _ hx he hw fun c n1 I1 H1 s1 h1 => by
  cases c with
  | true => exact hb Z I0 H0 cx n1 δ σ I1 H1 P Q hx (he.step s1) h1 fun d n2 I2 H2 s2 => hq d n2 I2 H2 (s1.trans s2)
  | false => exact hq false n1 I1 H1 s1 h1
theorem ST.or {K : PySem.W.Frag} {t u : TT} (ha : ST K E t wa) (hb : ST K E u wb) : ST K E (tOr t u) (wOr wa wb) := fun Z I0 H0 cx n δ σ I H P Q hx he hw hq => ha Z I0 H0 cx n δ σ I H _ _ hx he hw fun c n1 I1 H1 s1 h1 => by
  cases c with
  | false => exact hb Z I0 H0 cx n1 δ σ I1 H1 P Q hx (he.step s1) h1 fun d n2 I2 H2 s2 => hq d n2 I2 H2 (s1.trans s2)
  | true => exact hq true n1 I1 H1 s1 h1
theorem dw_and1 (ha : DT X E a wa) : DW X E (.BoolOp .And [a] pos) wa := let ⟨t, p, s⟩ := ha; ⟨t, pw_and1 p, s⟩
theorem dw_or1 (ha : DT X E a wa) : DW X E (.BoolOp .Or [a] pos) wa := let ⟨t, p, s⟩ := ha; ⟨t, pw_or1 p, s⟩
theorem dw_and (ha : DT X E a wa) (hb : DW X E (.BoolOp .And (b :: rest) pos) wb) : DW X E (.BoolOp .And (a :: b :: rest) pos) (wAnd wa wb) := let ⟨_, p, s⟩ := ha; let ⟨_, q, u⟩ := hb; ⟨_, pw_and p q, s.and u⟩
theorem dw_or (ha : DT X E a wa) (hb : DW X E (.BoolOp .Or (b :: rest) pos) wb) : DW X E (.BoolOp .Or (a :: b :: rest) pos) (wOr wa wb) := let ⟨_, p, s⟩ := ha; let ⟨_, q, u⟩ := hb; ⟨_, pw_or p q, s.or u⟩
theorem dt_not (ha : DT X E a wa) : DT X E (.UnaryOp .Not a pos) (wNot wa) := let ⟨t, p, s⟩ := ha
  ⟨_, pt_not p, fun Z I0 H0 cx n δ σ I H P Q hx he hw hq => s Z I0 H0 cx n δ σ I H _ _ hx he hw fun b n1 I1 H1 s1 h1 => hq (!b) n1 I1 H1 s1 h1⟩
/-- and, or, not of truths as values -/
def wAndV (wa wb : WE) : WE := fun c n δ P => wa c n δ fun n1 d => asB d fun b => if b = true then wb c n1 δ P else P n1 (.bl false)
def wOrV (wa wb : WE) : WE := fun c n δ P => wa c n δ fun n1 d => asB d fun b => if b = true then P n1 (.bl true) else wb c n1 δ P
def wNotV (wa : WE) : WE := fun c n δ P => wa c n δ fun n1 d => asB d fun b => P n1 (.bl (!b))
theorem de_one {op} (h : DE X E a va) : DE X E (.BoolOp op [a] pos) va := let ⟨t, p, s⟩ := h; ⟨t, pe_one p, s⟩
theorem de_and (ha : DE X E a va) (hb : DE X E (.BoolOp .And (b :: rest) pos) vb) : DE X E (.BoolOp .And (a :: b :: rest) pos) (wAndV va vb) := by
  obtain ⟨_, pa, sa⟩ := ha
  obtain ⟨_, pb, sb⟩ := hb
  refine ⟨_, pe_and pa pb, fun Z I0 H0 cx n δ σ I H P Q hx he hw hq => sa Z I0 H0 cx n δ σ I H _ _ hx he hw fun d v n1 I1 H1 s1 r1 h1 => ?_⟩
  obtain ⟨c, e1, h2⟩ := bl_of r1 h1
  refine ⟨c, e1, ?_⟩
  cases c with
  | true => exact sb Z I0 H0 cx n1 δ σ I1 H1 P Q hx (he.step s1) h2 fun d v n2 I2 H2 s2 => hq d v n2 I2 H2 (s1.trans s2)
  | false => exact hq _ _ n1 I1 H1 s1 (.bl _) h2
theorem de_or (ha : DE X E a va) (hb : DE X E (.BoolOp .Or (b :: rest) pos) vb) : DE X E (.BoolOp .Or (a :: b :: rest) pos) (wOrV va vb) := by
  obtain ⟨_, pa, sa⟩ := ha
  obtain ⟨_, pb, sb⟩ := hb
  refine ⟨_, pe_or pa pb, fun Z I0 H0 cx n δ σ I H P Q hx he hw hq => sa Z I0 H0 cx n δ σ I H _ _ hx he hw fun d v n1 I1 H1 s1 r1 h1 => ?_⟩
  obtain ⟨c, e1, h2⟩ := bl_of r1 h1
  refine ⟨c, e1, ?_⟩
  cases c with
  | false => exact sb Z I0 H0 cx n1 δ σ I1 H1 P Q hx (he.step s1) h2 fun d v n2 I2 H2 s2 => hq d v n2 I2 H2 (s1.trans s2)
  | true => exact hq _ _ n1 I1 H1 s1 (.bl _) h2
theorem de_not (ha : DE X E a va) : DE X E (.UnaryOp .Not a pos) (wNotV va) := by
  obtain ⟨_, pa, sa⟩ := ha
  refine ⟨_, pe_not pa, fun Z I0 H0 cx n δ σ I H P Q hx he hw hq => sa Z I0 H0 cx n δ σ I H _ _ hx he hw fun d v n1 I1 H1 s1 r1 h1 => ?_⟩
  obtain ⟨c, e1, h2⟩ := bl_of r1 h1
  exact ⟨c, e1, hq _ _ n1 I1 H1 s1 (.bl _) h2⟩
def wIf (wt : WT) (wa wb : WE) : WE := fun c n δ P => wt c n δ fun n1 b => if b = true then wa c n1 δ P else wb c n1 δ P
theorem de_ifExp {c : Expr} {wt : WT} (hc : DT X E c wt) (ha : DE X E a va) (hb : DE X E b vb) : DE X E (.IfExp c a b pos) (wIf wt va vb) := by
  obtain ⟨_, pc, sc⟩ := hc
  obtain ⟨_, pa, sa⟩ := ha
  obtain ⟨_, pb, sb⟩ := hb
  refine ⟨_, pe_ifExp pc pa pb, fun Z I0 H0 cx n δ σ I H P Q hx he hw hq => sc Z I0 H0 cx n δ σ I H _ _ hx he hw fun d n1 I1 H1 s1 h1 => ?_⟩
  cases d with
  | true => exact sa Z I0 H0 cx n1 δ σ I1 H1 P Q hx (he.step s1) h1 fun d v n2 I2 H2 s2 => hq d v n2 I2 H2 (s1.trans s2)
  | false => exact sb Z I0 H0 cx n1 δ σ I1 H1 P Q hx (he.step s1) h1 fun d v n2 I2 H2 s2 => hq d v n2 I2 H2 (s1.trans s2)
/-- .. a new list either way -/
theorem df_ifExp {c : Expr} {wt : WT} (hc : DT X E c wt) (ha : DF X E a va) (hb : DF X E b vb) : DF X E (.IfExp c a b pos) (wIf wt va vb) := by
  obtain ⟨_, pc, sc⟩ := hc
  obtain ⟨_, pa, sa⟩ := ha
  obtain ⟨_, pb, sb⟩ := hb
  refine ⟨_, pe_ifExp pc pa pb, fun Z I0 H0 cx n δ σ I H P Q hx he hw hq => sc Z I0 H0 cx n δ σ I H _ _ hx he hw fun d n1 I1 H1 s1 h1 => ?_⟩
  have bk : ∀ q, H1 q = none → H q = none := fun q hq2 => by
    cases z : H q with
    | none => rfl
    | some o => exact absurd hq2 (s1.live (by rw [z]; exact fun y => nomatch y))
  cases d with
  | true => exact sa Z I0 H0 cx n1 δ σ I1 H1 P Q hx (he.step s1) h1 fun d v n2 I2 H2 s2 n => hq d v n2 I2 H2 (s1.trans s2) (bk v n)
  | false => exact sb Z I0 H0 cx n1 δ σ I1 H1 P Q hx (he.step s1) h1 fun d v n2 I2 H2 s2 n => hq d v n2 I2 H2 (s1.trans s2) (bk v n)
end

/-! ### statements -/
section
variable {X : Cx} {E : XK} {e : Expr} {st : Stmt} {rest : List Stmt} {pos pos' : Pos} {w : WE} {u v : WS} {wt : WT}
theorem dss_nil : DSs X E [] (fun _ De n δ => De.nx n δ) := ⟨_, pss_nil, fun Z I0 H0 cx De D' n δ σ I H hx ho he hw => ho.nx n δ σ I H (Le.refl _) he hw⟩
def wSeq (u v : WS) : WS := fun c De n δ => u c { De with nx := v c De } n δ
theorem dss_cons (h : DS X E st u) (hr : DSs X E rest v) : DSs X E (st :: rest) (wSeq u v) := by
  obtain ⟨_, p, s⟩ := h
  obtain ⟨_, q, t⟩ := hr
  exact ⟨_, pss_cons p q, fun Z I0 H0 cx De D' n δ σ I H hx ho he hw => s Z I0 H0 cx { De with nx := v ⟨Z, cx⟩ De } _ n δ σ I H hx ⟨fun n' δ' σ' I' H' l e' h' => t Z I0 H0 cx De D' n' δ' σ' I' H' hx (ho.mono l) e' h', ho.rt, ho.bk, ho.ct⟩ he hw⟩
theorem dss_one (h : DS X E st u) : DSs X E [st] u := let ⟨t, p, s⟩ := h; ⟨t, pss_one p, s⟩
theorem ds_pass : DS X E (.Pass pos) (fun _ De n δ => De.nx n δ) := ⟨_, ps_pass, fun Z I0 H0 cx De D' n δ σ I H hx ho he hw => ho.nx n δ σ I H (Le.refl _) he hw⟩
theorem ds_break : DS X E (.Break pos) (fun _ De n δ => De.bk n δ) := ⟨_, ps_break, fun Z I0 H0 cx De D' n δ σ I H hx ho he hw => ho.bk n δ σ I H (Le.refl _) he hw⟩
theorem ds_continue : DS X E (.Continue pos) (fun _ De n δ => De.ct n δ) := ⟨_, ps_continue, fun Z I0 H0 cx De D' n δ σ I H hx ho he hw => ho.ct n δ σ I H (Le.refl _) he hw⟩
theorem ds_never : DS X E st (fun _ _ _ _ => False) := ⟨_, ps_never, fun _ _ _ _ _ _ _ _ _ _ _ _ _ _ h => h.elim⟩
theorem dss_never {sts : List Stmt} : DSs X E sts (fun _ _ _ _ => False) := ⟨_, pss_never, fun _ _ _ _ _ _ _ _ _ _ _ _ _ _ h => h.elim⟩
theorem ds_frz (h : DS X E st u) : DS X E st (fun c De n δ => u c De n (frz δ)) := let ⟨t, p, s⟩ := h
  ⟨t, p, fun Z I0 H0 cx De D' n δ σ I H hx ho he hw => s Z I0 H0 cx De D' n _ σ _ H hx (ho.mono he.leFr) he.fr hw⟩
def wDrop (w : WE) : WS := fun c De n δ => w c n δ fun n1 _ => De.nx n1 δ
theorem ds_expr (h : DE X E e w) (hs : swapsWith e none pos.line X.env = pure false := by rfl) : DS X E (.Expr e pos) (wDrop w) := by
  obtain ⟨_, p, s⟩ := h
  exact ⟨_, ps_expr p hs, fun Z I0 H0 cx De D' n δ σ I H hx ho he hw => s Z I0 H0 cx n δ σ I H _ _ hx he hw fun d v n1 I1 H1 s1 r1 h1 => ho.nx n1 δ σ I1 H1 s1.ex (he.step s1) h1⟩
/-- return: all own things are kept -/
def wRet (w : WE) : WS := fun c De n δ => w c n (frz δ) De.rt
theorem ds_ret (h : DE X E e w) : DS X E (.Return (some e) pos) (wRet w) := by
  obtain ⟨_, p, s⟩ := h
  exact ⟨_, ps_ret p, fun Z I0 H0 cx De D' n δ σ I H hx ho he hw => s Z I0 H0 cx n _ σ _ H _ _ hx he.fr hw fun d v n1 I1 H1 s1 r1 h1 => ho.rt d v n1 I1 H1 (he.fr.st.trans s1) r1 h1⟩
theorem ds_retN : DS X E (.Return none pos) (fun _ De n _ => De.rt n .non) := ⟨_, ps_retN, fun Z I0 H0 cx De D' n δ σ I H hx ho he hw => ho.rt _ _ n I H he.st .non hw⟩
def wIfS (wt : WT) (u v : WS) : WS := fun c De n δ => wt c n δ fun n1 b => if b = true then u c De n1 δ else v c De n1 δ
theorem ds_if {c : Expr} {a b : List Stmt} (hc : DT X E c wt) (ha : DSs X E a u) (hb : DSs X E b v) : DS X E (.If c a b pos) (wIfS wt u v) := by
  obtain ⟨_, pc, sc⟩ := hc
  obtain ⟨_, pa, sa⟩ := ha
  obtain ⟨_, pb, sb⟩ := hb
  refine ⟨_, ps_if pc pa pb, fun Z I0 H0 cx De D' n δ σ I H hx ho he hw => sc Z I0 H0 cx n δ σ I H _ _ hx he hw fun d n1 I1 H1 s1 h1 => ?_⟩
  cases d with
  | true => exact sa Z I0 H0 cx De D' n1 δ σ I1 H1 hx (ho.mono s1.ex) (he.step s1) h1
  | false => exact sb Z I0 H0 cx De D' n1 δ σ I1 H1 hx (ho.mono s1.ex) (he.step s1) h1
def wSet (i : Nat) (w : WE) : WS := fun c De n δ => w c n δ fun n1 d => De.nx n1 (δ.set i (.v d))
def wOwn (i : Nat) (w : WE) : WS := fun c De n δ => w c n δ fun n1 d => De.nx n1 (δ.set i (.o d))
theorem SS.set {K : PySem.W.Frag} {t : TE} {i : Nat} (s : SE K E t w) : SS K E (tAsg t (gName i)) (wSet i w) := fun Z I0 H0 cx De D' n δ σ I H hx ho he hw =>
  s Z I0 H0 cx n δ σ I H _ _ hx he hw fun d v n1 I1 H1 s1 r1 h1 => ho.nx _ _ _ I1 H1 s1.ex ((he.step s1).put r1) h1
theorem Ev.base0 {K : PySem.W.Frag} {Z : Res} {n : Nat} {I0 H0 I H : Hp} {δ : List Sl} {σ : L2.St} (e : Ev K Z I0 H0 n δ σ I H) {p : Addr} (hn : H p = none) : H0 p = none := by
  cases q : H0 p with
  | none => rfl
  | some o => exact absurd hn (e.st.live (by rw [q]; exact fun y => nomatch y))
theorem Ev.notOwn {K : PySem.W.Frag} {Z : Res} {n : Nat} {I0 H0 I H : Hp} {δ : List Sl} {σ : L2.St} (e : Ev K Z I0 H0 n δ σ I H) {p : Addr} (hn : H p = none) : ∀ (j : Nat) (c : D), δ[j]? = some (Sl.o c) → σ[j]? ≠ some (some (V.ref p)) := fun j c h1 h2 => by
  obtain ⟨a, g1, g2, g3, g4, g5⟩ := e.owns j c h1
  rw [h2] at g1
  cases g1
  exact g5.live hn
theorem SS.own {K : PySem.W.Frag} {t : TE} {i : Nat} (s : SF K E t w) : SS K E (tAsg t (gName i)) (wOwn i w) := fun Z I0 H0 cx De D' n δ σ I H hx ho he hw =>
  s Z I0 H0 cx n δ σ I H _ _ hx he hw fun d p n1 I1 H1 s1 z1 z2 z3 ow h1 => ho.nx _ _ _ I1 H1 s1.ex ((he.step s1).putO z2 z3 (he.base0 z1) ow (he.notOwn z1)) h1
variable {k i : Nat} {x : Str}
theorem ds_set {q : Bool} (g : Gx X E k q) (i : Nat) (h : DE X E e w) (hi : X.N[i]? = some x := by rfl) (hx : Loc X.env.scope x := by first | exact Or.inl rfl | exact Or.inr rfl) (hs : swapsWith e (some (.Name x pos')) pos.line X.env = pure false := by rfl)
    (hf : X.fn x = true ∨ X.env.scope.names.lookup x = some .local := by first | exact .inl rfl | exact .inr rfl | assumption) : DS X E (.Assign [.Name x pos'] e pos) (wSet i w) := let ⟨_, p, s⟩ := h; ⟨_, ps_set g.nd hi hx p hs hf, SS.set s⟩
theorem ds_own {q : Bool} (g : Gx X E k q) (i : Nat) (h : DF X E e w) (hi : X.N[i]? = some x := by rfl) (hx : Loc X.env.scope x := by first | exact Or.inl rfl | exact Or.inr rfl) (hs : swapsWith e (some (.Name x pos')) pos.line X.env = pure false := by rfl)
    (hf : X.fn x = true ∨ X.env.scope.names.lookup x = some .local := by first | exact .inl rfl | exact .inr rfl | assumption) : DS X E (.Assign [.Name x pos'] e pos) (wOwn i w) := let ⟨_, p, s⟩ := h; ⟨_, ps_set g.nd hi hx p hs hf, SS.own s⟩
end

/-! ### targets -/
abbrev WG := D → List Sl → (List Sl → Prop) → Prop
abbrev WGs := List D → List Sl → (List Sl → Prop) → Prop
structure Onl (ts : List Nat) (σ σ' : L2.St) : Prop where
  out : ∀ i, i ∉ ts → σ'[i]? = σ[i]?
  len : σ'.length = σ.length
def SG (K : PySem.W.Frag) (ts : List Nat) (g : TG) (w : WG) : Prop := ∀ (Z : Res) (I0 H0 : Hp) (n : Nat) (δ : List Sl) (σ : L2.St) (I H : Hp) (v : V) (d : D) (P : List Sl → Prop) (Q : L2.St → Hp → Prop),
  Ev K Z I0 H0 n δ σ I H → Rep K I v d → w d δ P → (∀ δ' σ', Ev K Z I0 H0 n δ' σ' I H → Onl ts σ σ' → P δ' → Q σ' H) → g v σ H Q
def SGs (K : PySem.W.Frag) (ts : List Nat) (g : TGs) (w : WGs) : Prop := ∀ (Z : Res) (I0 H0 : Hp) (n : Nat) (δ : List Sl) (σ : L2.St) (I H : Hp) (v : List V) (d : List D) (P : List Sl → Prop) (Q : L2.St → Hp → Prop),
  Ev K Z I0 H0 n δ σ I H → RepL K I v d → w d δ P → (∀ δ' σ', Ev K Z I0 H0 n δ' σ' I H → Onl ts σ σ' → P δ' → Q σ' H) → g v σ H Q
def DG (X : Cx) (tg : Expr) (ts : List Nat) (w : WG) : Prop := ∃ t, PG X tg t ∧ SG X.K ts t w
def DGs (X : Cx) (tg : List Expr) (ts : List Nat) (w : WGs) : Prop := ∃ t, PGs X tg t ∧ SGs X.K ts t w
def gN (i : Nat) : WG := fun d δ P => P (δ.set i (.v d))
def gsNil : WGs := fun ds δ P => ds = [] ∧ P δ
def gsCons (g : WG) (r : WGs) : WGs := fun ds δ P => match ds with
  | d :: ds => g d δ fun δ' => r ds δ' P
  | [] => False
def gT (n : Nat) (r : WGs) : WG := fun d δ P => match d with
  | .tup ds => ds.length = n ∧ r ds δ P
  | _ => False
section
variable {X : Cx} {E : XK} {k : Nat} {x : Str} {pos : Pos} {e : Expr} {es : List Expr} {ts us : List Nat}
theorem dg_name (nd : X.N.Nodup) (i : Nat) (hi : X.N[i]? = some x := by rfl) (hx : Loc X.env.scope x := by first | exact Or.inl rfl | exact Or.inr rfl) (hf : X.fn x = true ∨ X.env.scope.names.lookup x = some .local := by first | exact .inl rfl | exact .inr rfl | assumption) : DG X (.Name x pos) [i] (gN i) :=
  ⟨_, pg_name nd hi hx hf, fun Z I0 H0 n δ σ I H v d P Q he r hw hq => hq _ _ (he.put r) ⟨fun j hj => List.getElem?_set_ne (fun z => hj (by simp [z])), List.length_set ..⟩ hw⟩
theorem dgs_nil : DGs X [] [] gsNil := ⟨_, pgs_nil, fun Z I0 H0 n δ σ I H v d P Q he r hw hq => by
  obtain ⟨rfl, hw⟩ := hw
  cases r
  exact ⟨rfl, hq _ _ he ⟨fun _ _ => rfl, rfl⟩ hw⟩⟩
theorem dgs_cons {g : WG} {r : WGs} (h1 : DG X e ts g) (h2 : DGs X es us r) (hs : (assignEach (e :: es) X.env).map (·.2) = assign e X.env :: (assignEach es X.env).map (·.2) := by rfl) : DGs X (e :: es) (ts ++ us) (gsCons g r) := by
  obtain ⟨_, p, s⟩ := h1
  obtain ⟨_, q, t⟩ := h2
  refine ⟨_, pgs_cons p q hs, fun Z I0 H0 n δ σ I H v d P Q he r hw hq => ?_⟩
  cases r with
  | nil => exact hw.elim
  | cons h r =>
    refine ⟨_, _, rfl, s Z I0 H0 n δ σ I H _ _ _ _ he h hw fun δ' σ' he' o hw' => t Z I0 H0 n δ' σ' I H _ _ _ _ he' r hw' fun δ2 σ2 he2 o2 => hq δ2 σ2 he2 ⟨fun i hi => ?_, o2.len.trans o.len⟩⟩
    rw [List.mem_append, not_or] at hi
    rw [o2.out i hi.2, o.out i hi.1]
theorem dg_tup (g : X.calm = true) {k : Nat} {r : WGs} {n : Nat} (h : DGs X es ts r) (hn : (assignEach es X.env).length = n := by rfl) (hst : (assignEach es X.env).findIdx? (·.1) = none := by rfl) : DG X (.Tuple es k pos) ts (gT n r) := by
  obtain ⟨_, p, s⟩ := h
  refine ⟨_, pg_tup g p hn hst, fun Z I0 H0 n δ σ I H v d P Q he rp hw hq => ?_⟩
  cases rp with
  | tup h1 r1 => exact ⟨_, _, rfl, he.wk.ih.sqT h1, by rw [r1.length]; exact hw.1, s Z I0 H0 n δ σ I H _ _ _ _ he r1 hw.2 hq⟩
  | _ => exact hw.elim
def wAsg (w : WE) (g : WG) : WS := fun c De n δ => w c n δ fun n1 d => g d δ (De.nx n1)
theorem ds_asg {tg : Expr} {w : WE} {g : WG} (h : DE X E e w) (hg : DG X tg ts g) (hs : swapsWithSole [tg] e pos.line X.env = pure false := by rfl) (hw : swappedStores [tg] e X.env = pure none := by rfl)
    (h1 : (assignEach [tg] X.env).map (·.2) = [assign tg X.env] := by rfl) : DS X E (.Assign [tg] e pos) (wAsg w g) := by
  obtain ⟨_, p, s⟩ := h
  obtain ⟨_, q, t⟩ := hg
  exact ⟨_, ps_asg p q hs hw h1, fun Z I0 H0 cx De D' n δ σ I H hx ho he hw => s Z I0 H0 cx n δ σ I H _ _ hx he hw fun d v n1 I1 H1 s1 r1 h1 => t Z I0 H0 n1 δ σ I1 H1 v d _ _ (he.step s1) r1 h1 fun δ' σ' he' _ h' => ho.nx n1 δ' σ' I1 H1 s1.ex he' h'⟩
end

/-! ### what is walked -/
def Wlk (K : PySem.W.Frag) (Z : Res) (I1 : Hp) (J : It) (ds : List D) : Prop := ∀ (n : Nat) (I2 H2 : Hp) (i : Nat), Le I1 I2 → Wk Z n I2 H2 →
  (∀ d, ds[i]? = some d → J.go i H2 ∧ ∀ x H3, J.yld i H2 x H3 → ∃ I3, Stp Z I2 H2 n I3 H3 ∧ Rep K I3 x d) ∧ (ds.length = i → J.stop i H2)
def SI (K : PySem.W.Frag) (E : XK) (t : TI) (w : WA) : Prop := ∀ (Z : Res) (I0 H0 : Hp) (cx : Nat → Xn → Prop) (n : Nat) (δ : List Sl) (σ : L2.St) (I H : Hp) (P : Nat → List D → Prop) (R : It → Hp → Prop),
  XR K E Z I0 H0 cx → Ev K Z I0 H0 n δ σ I H → w ⟨Z, cx⟩ n δ P → (∀ ds J n' I' H', Stp Z I H n' I' H' → Wlk K Z I' J ds → P n' ds → R J H') → t σ H R
def DI (X : Cx) (E : XK) (tg iter : Expr) (w : WA) : Prop := ∃ t, PI X tg iter t ∧ SI X.K E t w
/-- one turn after the other -/
def wFor (g : WG) (b : WS) (c : Ct) (De : DEnds) : List D → Nat → List Sl → Prop
  | [], n, δ => De.nx n δ
  | d :: ds, n, δ => g d δ fun δ' => b c ⟨wFor g b c De ds, De.rt, De.nx, wFor g b c De ds⟩ n δ'
def wForS (wi : WA) (g : WG) (b : WS) : WS := fun c De n δ => wi c n δ fun n1 ds => wFor g b c De ds n1 δ
section
variable {X : Cx} {E : XK} {k : Nat} {pos : Pos} {tg iter : Expr} {body : List Stmt} {wi : WA} {g : WG} {b : WS} {ts : List Nat}
theorem SS.for {K : PySem.W.Frag} {t : TI} {tg : TG} {tb : TS} (hi : SI K E t wi) (hg : SG K ts tg g) (hb : SS K E tb b) : SS K E (tFor t tg tb) (wForS wi g b) := fun Z I0 H0 cx De D' n δ σ I H hx ho he hw =>
  hi Z I0 H0 cx n δ σ I H _ _ hx he hw fun ds J n1 I1 H1 s1 wl h1 => by
    refine ⟨fun i m σ' H' => m = ds.length - i ∧ i ≤ ds.length ∧ ∃ n' δ' I', Le I1 I' ∧ Ev K Z I0 H0 n' δ' σ' I' H' ∧ wFor g b ⟨Z, cx⟩ De (ds.drop i) n' δ', ⟨ds.length, by simp, Nat.zero_le _, n1, δ, I1, Le.refl _, he.step s1, by simpa using h1⟩, ?_⟩
    rintro i m σ' H' ⟨rfl, hle, n', δ', I', l, he', h'⟩
    obtain ⟨w1, w2⟩ := wl n' I' H' i l he'.wk
    by_cases hlt : i < ds.length
    · obtain ⟨d, hd⟩ : ∃ d, ds[i]? = some d := ⟨ds[i], List.getElem?_eq_getElem hlt⟩
      have e1 : ds.drop i = d :: ds.drop (i + 1) := by
        rw [List.drop_eq_getElem_cons hlt]
        congr
        have := List.getElem?_eq_getElem hlt
        rw [this] at hd
        exact Option.some.inj hd
      rw [e1] at h'
      obtain ⟨g1, g2⟩ := w1 d hd
      refine .inr ⟨g1, fun σ2 H2 => ∃ n2 δ2 I2, Le I1 I2 ∧ Ev K Z I0 H0 n2 δ2 σ2 I2 H2 ∧ wFor g b ⟨Z, cx⟩ De (ds.drop (i + 1)) n2 δ2, fun σ2 H2 q => ⟨ds.length - (i + 1), by omega, rfl, hlt, q⟩, fun y H3 hy => ?_⟩
      obtain ⟨I3, s3, r3⟩ := g2 y H3 hy
      refine hg Z I0 H0 n' δ' σ' I3 H3 y d _ _ (he'.step s3) r3 h' fun δ2 σ2 he2 _ h2 => hb Z I0 H0 cx _ _ n' δ2 σ2 I3 H3 hx ?_ he2 h2
      have l3 : Le I1 I3 := l.trans s3.ex
      exact ⟨fun n4 δ4 σ4 I4 H4 l4 e4 h4 => ⟨n4, δ4, I4, l3.trans l4, e4, h4⟩, ho.rt, fun n4 δ4 σ4 I4 H4 l4 e4 h4 => ho.nx n4 δ4 σ4 I4 H4 ((s1.ex.trans l3).trans l4) e4 h4, fun n4 δ4 σ4 I4 H4 l4 e4 h4 => ⟨n4, δ4, I4, l3.trans l4, e4, h4⟩⟩
    · have e1 : ds.drop i = [] := List.drop_eq_nil_of_le (by omega)
      rw [e1] at h'
      exact .inl ⟨w2 (by omega), ho.nx n' δ' σ' I' H' (s1.ex.trans l) he' h'⟩
theorem ds_for {q : Bool} (gx : Gx X E k q) (hi : DI X E tg iter wi) (hg : DG X tg ts g) (hb : DSs X E body b) (hs : ∀ x, foldedSetIterable iter X.env x = pure x := by intro _; rfl) : DS X E (.For tg iter body [] pos) (wForS wi g b) := by
  obtain ⟨_, pi, si⟩ := hi
  obtain ⟨_, pg, sg⟩ := hg
  obtain ⟨_, pb, sb⟩ := hb
  exact ⟨_, ps_for gx.own gx.calm pi pg pb hs, SS.for si sg sb⟩
/-- so many turns at most -/
def wWh (t : WT) (b : WS) (c : Ct) (De : DEnds) : Nat → Nat → List Sl → Prop
  | 0, _, _ => False
  | m + 1, n, δ => t c n δ fun n1 q => if q = true then b c ⟨wWh t b c De m, De.rt, De.nx, wWh t b c De m⟩ n1 δ else De.nx n1 δ
def wWhile (t : WT) (b : WS) : WS := fun c De n δ => ∃ m, wWh t b c De m n δ
theorem SS.while {K : PySem.W.Frag} {tc : TT} {tb : TS} {t : WT} (hc : ST K E tc t) (hb : SS K E tb b) : SS K E (tWhile tc tb) (wWhile t b) := fun Z I0 H0 cx De D' n δ σ I H hx ho he ⟨m0, hw⟩ => by
  refine ⟨fun m σ' H' => ∃ n' δ' I', Le I I' ∧ Ev K Z I0 H0 n' δ' σ' I' H' ∧ wWh t b ⟨Z, cx⟩ De m n' δ', ⟨m0, n, δ, I, Le.refl _, he, hw⟩, ?_⟩
  rintro m σ' H' ⟨n', δ', I', l, he', h'⟩
  cases m with
  | zero => exact h'.elim
  | succ m =>
    refine hc Z I0 H0 cx n' δ' σ' I' H' _ _ hx he' h' fun q n1 I1 H1 s1 h1 => ?_
    have l1 : Le I I1 := l.trans s1.ex
    cases q with
    | true =>
      rw [if_pos rfl] at h1 ⊢
      refine ⟨fun σ2 H2 => ∃ n2 δ2 I2, Le I I2 ∧ Ev K Z I0 H0 n2 δ2 σ2 I2 H2 ∧ wWh t b ⟨Z, cx⟩ De m n2 δ2, fun σ2 H2 q => ⟨m, Nat.lt_succ_self m, q⟩, hb Z I0 H0 cx _ _ n1 δ' σ' I1 H1 hx ?_ (he'.step s1) h1⟩
      exact ⟨fun n4 δ4 σ4 I4 H4 l4 e4 h4 => ⟨n4, δ4, I4, l1.trans l4, e4, h4⟩, ho.rt, fun n4 δ4 σ4 I4 H4 l4 e4 h4 => ho.nx n4 δ4 σ4 I4 H4 (l1.trans l4) e4 h4, fun n4 δ4 σ4 I4 H4 l4 e4 h4 => ⟨n4, δ4, I4, l1.trans l4, e4, h4⟩⟩
    | false =>
      rw [if_neg (by decide)] at h1 ⊢
      exact ho.nx n1 δ' σ' I1 H1 l1 (he'.step s1) h1
theorem ds_while {q : Bool} (gx : Gx X E k q) {c : Expr} {t : WT} (hc : DT X E c t) (hb : DSs X E body b) : DS X E (.While c body [] pos) (wWhile t b) := by
  obtain ⟨_, pc, sc⟩ := hc
  obtain ⟨_, pb, sb⟩ := hb
  exact ⟨_, ps_while gx.own pc pb, SS.while sc sb⟩
end
end Dt

/-! DtF: what is walked: lists, tuples, texts, ranges; enumerate and zip of lists and tuples in any mix. -/
namespace Dt
open PySem L2

/-! ### sources: a list (true) or a tuple (false) -/
def sIt : Bool → Addr → Addr → Nat → Heap → Prop
  | true, it, a, i, h => h.IsListIter it a i
  | false, it, a, i, h => h.IsTupleIter it a i
def sSq (K : PySem.W.Frag) : Bool → Hp → Addr → List V → Prop
  | true, H, a, xs => SqL K H a xs
  | false, H, a, xs => SqT K H a xs
def sIs : Bool → Heap → Addr → Array Value → Prop
  | true, h, a, its => h.IsList a its
  | false, h, a, its => h.IsTuple a its
def sOb : Bool → Addr → Obj
  | true, a => { cls := .type "list_iterator", data := .fields #[.ref a, .int 0 0] }
  | false, a => { cls := .type "tuple_iterator", data := .fields #[.ref a, .int 0 0] }
section
variable {X : Cx} {pins : List (Addr × Obj)} {σ : L2.St} {H : Hp} {s : Shared} {a it : Addr} {xs ys : List V} {h h' : Heap} {i : Nat} {its : Array Value}
theorem sIs_of (I : Inv X pins σ H s) : ∀ {b : Bool}, sSq X.K b H a xs → ∃ its : List Value, Vals xs its ∧ sIs b s.heap a its.toArray
  | true, q => let ⟨its, r, p, _⟩ := I.list q; ⟨its, r, p.isList⟩
  | false, q => let ⟨its, r, p, _⟩ := I.tuple q; ⟨its, r, p⟩
theorem sSq_inj (I : Inv X pins σ H s) : ∀ {b : Bool}, sSq X.K b H a xs → sSq X.K b H a ys → xs = ys
  | true, q, q' => I.list_inj q q'
  | false, q, q' => I.tuple_inj q q'
theorem sIt_at : ∀ {b : Bool}, sIt b it a i h → (∀ o, h.get? it = some o → h'.get? it = some o) → sIt b it a i h'
  | true, q, k => q.at k
  | false, q, k => q.at k
theorem sIt_obj : ∀ {b : Bool}, sIt b it a i h → ∃ o vs, h.get? it = some o ∧ o.data = .fields vs
  | true, ⟨o, e, c, d⟩ => ⟨o, _, e, d⟩
  | false, ⟨o, e, c, d⟩ => ⟨o, _, e, d⟩
theorem sIs_obj : ∀ {b : Bool}, sIs b h a its → ∃ o n, h.get? a = some o ∧ o.data = .seq its n
  | true, ⟨o, e, c, n, d⟩ => ⟨o, n, e, d⟩
  | false, ⟨o, e, c, n, d⟩ => ⟨o, n, e, d⟩
theorem sIt_ne {b c : Bool} {e : Addr} (q : sIt b it a i h) (r : sIs c h e its) : e ≠ it := fun z => by
  obtain ⟨o, vs, e1, d1⟩ := sIt_obj q
  obtain ⟨o', n, e2, d2⟩ := sIs_obj r
  rw [z, e1] at e2
  cases e2
  rw [d1] at d2
  cases d2
theorem sDraws {prog : Program} {w : World} {A : Around} (hh : A.handled = none) (hne : a ≠ it) : ∀ b : Bool, Draws prog w A it [it, a] its.size (fun i v => its[i]? = some v) (fun i h => sIt b it a i h ∧ sIs b h a its)
  | true => Draws.list hh it a hne its
  | false => Draws.tuple hh it a hne its
theorem sBegins : ∀ b : Bool, Begins (.ref a) (sOb b a) (fun h => sIs b h a its)
  | true => begins_list a its
  | false => begins_tuple a its
theorem sIt_new : ∀ {b : Bool}, h.get? it = some (sOb b a) → sIt b it a 0 h
  | true, e => ⟨_, e, rfl, rfl⟩
  | false, e => ⟨_, e, rfl, rfl⟩
theorem sSq_le {K : PySem.W.Frag} {I H : Hp} (x : Le I H) : ∀ {b : Bool}, sSq K b I a xs → sSq K b H a xs
  | true, q => x.sqL q
  | false, q => x.sqT q
end

/-! ### enumerate -/
theorem meets_enum1 {v : Value} {o : Obj} {H : Heap → Prop} (B : Begins v o H) :
    Meets (Builtin.«enumerate.__new__» ⟨[.type "enumerate", v], []⟩) (fun _ R s => H s.heap ∧
      R (.ok (.ret (.ref (s.heap.push o).objs.size))) { s with heap := (s.heap.push o).push { cls := .type "enumerate", data := .fields #[.none, .bool false, .ref s.heap.objs.size, rawInt 0, .none, .none] } }) :=
  .of_wp fun prog w A R s hh => by
    obtain ⟨hp, g, d, tk, os⟩ := s
    obtain ⟨h1, hR⟩ := hh
    have hsub := sub_enumerate
    have q1 : ∀ {A' : Around} {E : Value → Shared → Prop} {Q : Value → Shared → Prop}, Q (.ref hp.objs.size) ⟨hp.push o, g, d, tk, os⟩ → wpAny (model prog w) A' (pyIter v) Q E ⟨hp, g, d, tk, os⟩ :=
      fun q => B.iter prog w _ _ ⟨hp, g, d, tk, os⟩ _ h1 q
    wp_walk using q1
    refine wpAny_stack_any fun st => wpAny_pure ?_
    split
    · rename_i c _ _ _ _ _
      cases (c == Value.type "enumerate") <;> (wp_walk using q1; exact ⟨_, rfl, hR⟩)
    · wp_walk using q1
      exact ⟨_, rfl, hR⟩
theorem enum1 {prog : Program} {w : World} {A : Around} {E : Value → Shared → Prop} {s : Shared} {v : Value} {o : Obj} {H : Heap → Prop} {Q : Value → Shared → Prop} (B : Begins v o H) (h1 : H s.heap)
    (hQ : ∀ h', IsEnum h' (s.heap.objs.size + 1) s.heap.objs.size 0 .none → h'.get? s.heap.objs.size = some o → (∀ b o, s.heap.get? b = some o → h'.get? b = some o) → Q (.ref (s.heap.objs.size + 1)) { s with heap := h' }) :
    wpAny (model prog w) A (call (.type "enumerate") [v]) Q E s := by
  refine callType_new F.called_enumerate (by decide) (F.typeCall_enumerate_1 _) (F.newCall_enumerate_1 _) (fun obj => F.args_object_init_2 obj _) F.entry_enumerate_new (meets_enum1 B) ⟨h1, ?_⟩
  have hz : (s.heap.push o).objs.size = s.heap.objs.size + 1 := Heap.size_push ..
  show _ ∧ _
  rw [hz]
  have he : IsEnum ((s.heap.push o).push { cls := .type "enumerate", data := .fields #[.none, .bool false, .ref s.heap.objs.size, rawInt 0, .none, .none] }) (s.heap.objs.size + 1) s.heap.objs.size 0 .none := by
    have q := Heap.get?_push_size (s.heap.push o) (o := { cls := .type "enumerate", data := .fields #[.none, .bool false, .ref s.heap.objs.size, rawInt 0, .none, .none] }) rfl
    rw [hz] at q
    exact q
  exact ⟨⟨_, he, rfl⟩, hQ _ he (Heap.get?_push_of_some _ (Heap.get?_push_size _ B.free)) fun b u e => Heap.get?_push_of_some _ (Heap.get?_push_of_some _ e)⟩
def Ien (K : PySem.W.Frag) (b : Bool) (a : Addr) : It :=
  ⟨fun i H => ∃ xs x, sSq K b H a xs ∧ xs[i]? = some x, fun i H v H' => ∃ T x, v = .ref T ∧ H T = none ∧ H' = upd H T (.tup [.int (i : Nat), x]) ∧ ∀ xs, sSq K b H a xs → xs[i]? = some x, fun i H => ∃ xs, sSq K b H a xs ∧ xs.length = i⟩
theorem enum_data {h : Heap} {e it : Addr} {k : Int} {old : Value} (x : IsEnum h e it k old) : ∃ o vs, h.get? e = some o ∧ o.data = .fields vs := ⟨_, _, x, rfl⟩
theorem enum_ne {h : Heap} {e it a : Addr} {k : Int} {old : Value} {b : Bool} {its : Array Value} (x : IsEnum h e it k old) (p : sIs b h a its) : e ≠ a := fun z => by
  obtain ⟨o, vs, e1, d1⟩ := enum_data x
  obtain ⟨o', n, e2, d2⟩ := sIs_obj p
  rw [z, e2] at e1
  cases e1
  rw [d1] at d2
  cases d2
theorem turn_en {P : Program} {w : World} {K : PySem.W.Frag} {elts : List Expr} {kk : Nat} {tpos : Pos} (b : Bool) (a e it : Addr) :
    Turn P w K (.Tuple elts kk tpos) (Ien K b a) [e, it] e (fun i h => (∃ old, IsEnum h e it ((i : Nat) : Int) old) ∧ sIt b it a i h ∧ e ≠ it) where
  mem := by simp
  obj := fun i h st c hc => by
    obtain ⟨⟨old, he⟩, hi, _⟩ := st
    have e' : c = e ∨ c = it := by simpa using hc
    rcases e' with z | z
    · obtain ⟨o, vs, e1, d1⟩ := enum_data he
      exact ⟨o, by rw [z]; exact e1, fun v q => by rw [d1] at q; cases q⟩
    · obtain ⟨o, vs, e1, d1⟩ := sIt_obj hi
      exact ⟨o, by rw [z]; exact e1, fun v q => by rw [d1] at q; cases q⟩
  keep := fun i h h' st k => by
    obtain ⟨⟨old, he⟩, hi, hne⟩ := st
    exact ⟨⟨old, k e (by simp) _ he⟩, sIt_at hi fun o q => k it (by simp) o q, hne⟩
  item := by
    intro X hP hw hK hc i pins s σ H E I hf st hg
    subst hP hw hK
    obtain ⟨hen, hi, hne⟩ := st
    obtain ⟨xs, x, hq, hx⟩ := hg
    obtain ⟨its, rv, p⟩ := sIs_of I hq
    obtain ⟨u, hu, ru⟩ := rv.get hx
    have hlt : i < its.toArray.size := by
      have := (List.getElem?_eq_some_iff.mp hu).1
      simpa using this
    have nai : a ≠ it := sIt_ne hi p
    have nea := enum_ne hen.choose_spec p
    have D := sDraws (prog := X.prog) (w := X.w) (A := X.A.in1) (its := its.toArray) (I.ok.hd hc) nai b
    have G := GoesN.enumFrom (A := X.A) (elts := elts) (x1 := kk) (pos := tpos) 0 D e hne (by simp [hne, nea]) (by simp)
    have lte : e < s.heap.objs.size := by obtain ⟨old, he⟩ := hen; obtain ⟨o, vs, e1, d1⟩ := enum_data he; exact Heap.lt_size e1
    have lti : it < s.heap.objs.size := by obtain ⟨o, vs, e1, d1⟩ := sIt_obj hi; exact Heap.lt_size e1
    refine thn (G.goes i s _ E hlt ⟨by simpa using hen, hi, p⟩ (fun v h' tk hY st' hk htk => ?_)) fun r s1 q => q
    obtain ⟨T, t, y, rfl, hT, hy, hTup⟩ := hY
    have ey : y = u := by
      have : its.toArray[i]? = some u := by simpa using hu
      rw [this] at hy
      exact (Option.some.inj hy).symm
    subst ey
    have new : ObjOk X.prog X.w (upd H T (.tup [.int (i : Nat), x])) h' T (.tup [.int (i : Nat), x]) := by
      obtain ⟨o, e1, c1, n, d1⟩ := hTup
      exact ⟨by show 2 ≤ sizeLine; decide, [.int (0 + (i : Int)) t, y], .cons ⟨t, by rw [Int.zero_add]⟩ (.cons ru .nil), ⟨o, e1, c1, n, d1⟩⟩
    have I1 : Inv X pins σ (upd H T (.tup [.int (i : Nat), x])) { s with heap := h', toks := tk } := I.turnedNew (ch := [e, it]) (fun c ob hc q => hk c ob hc q) hf hT new
    obtain ⟨⟨old', he'⟩, hi', _⟩ := st'
    refine ⟨.ref T, _, I1, rfl, ⟨T, x, rfl, I.hok.fresh hT, rfl, fun ys hy2 => by rw [sSq_inj I hy2 hq]; exact hx⟩, ⟨⟨old', ?_⟩, hi', hne⟩, fun c hc2 => ?_⟩
    · simpa using he'
    · have hc3 : c < s.heap.objs.size := by
        have e' : c = e ∨ c = it := by simpa using hc2
        rcases e' with z | z
        · rw [z]; exact lte
        · rw [z]; exact lti
      rw [upd_ne (Nat.ne_of_lt (Nat.lt_of_lt_of_le hc3 hT))]
      exact (hf c hc2).1
  done := by
    intro X hP hw hK hc i pins s σ H E I hf st hg
    subst hP hw hK
    obtain ⟨hen, hi, hne⟩ := st
    obtain ⟨xs, hq, hx⟩ := hg
    obtain ⟨its, rv, p⟩ := sIs_of I hq
    have nai : a ≠ it := sIt_ne hi p
    have nea := enum_ne hen.choose_spec p
    have D := sDraws (prog := X.prog) (w := X.w) (A := X.A.in1) (its := its.toArray) (I.ok.hd hc) nai b
    have G := GoesN.enumFrom (A := X.A) (elts := elts) (x1 := kk) (pos := tpos) 0 D e hne (by simp [hne, nea]) (by simp)
    have hsz : its.toArray.size = i := by
      rw [← hx, rv.length]
      simp
    refine thn (G.stops s _ E ⟨by rw [hsz]; simpa using hen, by rw [hsz]; exact hi, p⟩ fun h' tk hk _ => ?_) fun r s1 q => q
    exact I.turnedL (t' := tk) (ch := [e, it]) (fun c ob hc q => hk c ob hc q) hf
  self := fun A i s Q E st h => by
    obtain ⟨⟨old, he⟩, _⟩ := st
    exact wpAny_pyIter_enum he h
/-! ### zip -/
def Izi (K : PySem.W.Frag) (b b' : Bool) (a c : Addr) : It :=
  ⟨fun i H => ∃ xs ys x y, sSq K b H a xs ∧ sSq K b' H c ys ∧ xs[i]? = some x ∧ ys[i]? = some y,
    fun i H v H' => ∃ T x y, v = .ref T ∧ H T = none ∧ H' = upd H T (.tup [x, y]) ∧ (∀ xs, sSq K b H a xs → xs[i]? = some x) ∧ ∀ ys, sSq K b' H c ys → ys[i]? = some y,
    fun i H => ∃ xs ys, sSq K b H a xs ∧ sSq K b' H c ys ∧ min xs.length ys.length = i⟩
theorem turn_zi {P : Program} {w : World} {K : PySem.W.Frag} {elts : List Expr} {kk : Nat} {tpos : Pos} {b b' : Bool} {a c z TI TO i1 i2 : Addr} (S : ZipSep2 z TI TO i1 i2 [i1, a] [i2, c]) :
    Turn P w K (.Tuple elts kk tpos) (Izi K b b' a c) [z, TI, TO, i1, i2] z (fun i h => IsZip h z TI TO .none ∧ IsTupOf2 h TI (.ref i1) (.ref i2) ∧ (∃ u v, IsTupOf2 h TO u v) ∧ sIt b i1 a i h ∧ sIt b' i2 c i h) where
  mem := by simp
  obj := fun i h st q hq => by
    obtain ⟨hz, h1, ⟨u, v, h2⟩, h3, h4⟩ := st
    simp only [List.mem_cons, List.not_mem_nil, or_false] at hq
    rcases hq with e | e | e | e | e
    · refine ⟨_, by rw [e]; exact hz, fun v q => by cases q⟩
    · refine ⟨_, by rw [e]; exact h1, fun v q => by cases q⟩
    · refine ⟨_, by rw [e]; exact h2, fun v q => by cases q⟩
    · obtain ⟨o, vs, e1, d1⟩ := sIt_obj h3
      exact ⟨o, by rw [e]; exact e1, fun v q => by rw [d1] at q; cases q⟩
    · obtain ⟨o, vs, e1, d1⟩ := sIt_obj h4
      exact ⟨o, by rw [e]; exact e1, fun v q => by rw [d1] at q; cases q⟩
  keep := fun i h h' st k => by
    obtain ⟨hz, h1, ⟨u, v, h2⟩, h3, h4⟩ := st
    exact ⟨k z (by simp) _ hz, k TI (by simp) _ h1, ⟨u, v, k TO (by simp) _ h2⟩, sIt_at h3 fun o q => k i1 (by simp) o q, sIt_at h4 fun o q => k i2 (by simp) o q⟩
  item := by
    intro X hP hw hK hc i pins s σ H E I hf st hg
    subst hP hw hK
    obtain ⟨hz, h1, h2, h3, h4⟩ := st
    obtain ⟨xs, ys, x, y, hq, hq', hx, hy⟩ := hg
    obtain ⟨its, rv, p⟩ := sIs_of I hq
    obtain ⟨its', rv', p'⟩ := sIs_of I hq'
    obtain ⟨u, hu, ru⟩ := rv.get hx
    obtain ⟨u', hu', ru'⟩ := rv'.get hy
    have hlt : i < min its.toArray.size its'.toArray.size := by
      have l1 := (List.getElem?_eq_some_iff.mp hu).1
      have l2 := (List.getElem?_eq_some_iff.mp hu').1
      simp
      omega
    have D := sDraws (prog := X.prog) (w := X.w) (A := X.A.in1) (its := its.toArray) (I.ok.hd hc) (sIt_ne h3 p) b
    have D' := sDraws (prog := X.prog) (w := X.w) (A := X.A.in1) (its := its'.toArray) (I.ok.hd hc) (sIt_ne h4 p') b'
    have G := GoesN.zip2 (A := X.A) (elts := elts) (x1 := kk) (pos := tpos) S D D'
    have lts : ∀ q ∈ [z, TI, TO, i1, i2], q < s.heap.objs.size := fun q hq => by
      obtain ⟨u, v, h2⟩ := h2
      simp only [List.mem_cons, List.not_mem_nil, or_false] at hq
      rcases hq with e | e | e | e | e
      · rw [e]; exact Heap.lt_size hz
      · rw [e]; exact Heap.lt_size h1
      · rw [e]; exact Heap.lt_size h2
      · obtain ⟨o, vs, e1, d1⟩ := sIt_obj h3
        rw [e]; exact Heap.lt_size e1
      · obtain ⟨o, vs, e1, d1⟩ := sIt_obj h4
        rw [e]; exact Heap.lt_size e1
    refine thn (G.goes i s _ E hlt ⟨hz, h1, h2, ⟨h3, p⟩, h4, p'⟩ (fun v h' tk hY st' hk htk => ?_)) fun r s1 q => q
    obtain ⟨T, t, t', rfl, hT, e1, e2, hTup⟩ := hY
    have q1 : its.toArray[i]? = some u := by simpa using hu
    have q2 : its'.toArray[i]? = some u' := by simpa using hu'
    rw [q1] at e1
    rw [q2] at e2
    cases e1
    cases e2
    have new : ObjOk X.prog X.w (upd H T (.tup [x, y])) h' T (.tup [x, y]) := by
      obtain ⟨o, e1, c1, n, d1⟩ := hTup
      exact ⟨by show 2 ≤ sizeLine; decide, [u, u'], .cons ru (.cons ru' .nil), ⟨o, e1, c1, n, d1⟩⟩
    have I1 : Inv X pins σ (upd H T (.tup [x, y])) { s with heap := h', toks := tk } := I.turnedNew (ch := [z, TI, TO, i1, i2]) (fun q ob hq e => hk q ob (fun hm => hq (by simp only [List.mem_cons, List.not_mem_nil, or_false] at hm ⊢; rcases hm with e | e | e | e <;> simp [e])) e) hf hT new
    obtain ⟨gz, g1, g2, ⟨g3, _⟩, g4, _⟩ := st'
    refine ⟨.ref T, _, I1, rfl, ⟨T, x, y, rfl, I.hok.fresh hT, rfl, fun zs hz2 => by rw [sSq_inj I hz2 hq]; exact hx, fun zs hz2 => by rw [sSq_inj I hz2 hq']; exact hy⟩, ⟨gz, g1, g2, g3, g4⟩, fun q hq2 => ?_⟩
    rw [upd_ne (Nat.ne_of_lt (Nat.lt_of_lt_of_le (lts q hq2) hT))]
    exact (hf q hq2).1
  done := by
    intro X hP hw hK hc i pins s σ H E I hf st hg
    subst hP hw hK
    obtain ⟨hz, h1, h2, h3, h4⟩ := st
    obtain ⟨xs, ys, hq, hq', hx⟩ := hg
    obtain ⟨its, rv, p⟩ := sIs_of I hq
    obtain ⟨its', rv', p'⟩ := sIs_of I hq'
    have D := sDraws (prog := X.prog) (w := X.w) (A := X.A.in1) (its := its.toArray) (I.ok.hd hc) (sIt_ne h3 p) b
    have D' := sDraws (prog := X.prog) (w := X.w) (A := X.A.in1) (its := its'.toArray) (I.ok.hd hc) (sIt_ne h4 p') b'
    have G := GoesN.zip2 (A := X.A) (elts := elts) (x1 := kk) (pos := tpos) S D D'
    have hsz : min its.toArray.size its'.toArray.size = i := by
      rw [← hx, rv.length, rv'.length]
      simp
    refine thn (G.stops s _ E ⟨hz, h1, h2, ⟨by rw [hsz]; exact h3, p⟩, by rw [hsz]; exact h4, p'⟩ fun h' tk hk _ => ?_) fun r s1 q => q
    exact I.turnedL (t' := tk) (ch := [z, TI, TO, i1, i2]) (fun q ob hq e => hk q ob (fun hm => hq (by simp only [List.mem_cons, List.not_mem_nil, or_false] at hm ⊢; rcases hm with e | e | e | e <;> simp [e])) e) hf
  self := fun A i s Q E st h => wpAny_pyIter_zip st.1 h

/-! ### as what a loop walks -/
/-- a list, a tuple, the script, a text -/
def itemsD : D → Option (List D)
  | .lst xs => some xs
  | .tup xs => some xs
  | .scr ns => some (ns.map .int)
  | .str s => some (s.cps.toList.map fun c => .str ⟨#[c]⟩)
  | _ => none
def wItems (w : WE) : WA := fun c n δ P => w c n δ fun n1 d => ∃ xs, itemsD d = some xs ∧ P n1 xs
def iSeq (K : PySem.W.Frag) (tl : TE) : TI := fun σ H R => tl σ H fun x H1 => (∃ b a, x = .ref a ∧ (∃ xs, sSq K b H1 a xs) ∧ R (if b then Itl K a else Itt K a) H1) ∨ ∃ z, x = .str z ∧ R (Its z) H1
section
variable {X : Cx} {tg : Expr}
theorem pi_seq {l : Expr} {tl : TE} (hl : PE X l tl) : PI X tg l (iSeq X.K tl) := by
  refine ⟨fun pins s σ H R I h => thn (hl.run pins s σ H _ I h) fun v s1 ⟨x, H1, I1, r1, q1⟩ => ?_⟩
  rcases q1 with ⟨b, a, rfl, ⟨xs, hq⟩, q⟩ | ⟨z, rfl, q⟩
  · obtain rfl : v = Value.ref a := r1
    cases b with
    | true =>
      obtain ⟨its, rv, p, hz⟩ := I1.list hq
      exact wpAny_pyIter_list p.isList (pi_one (tk := s1.toks) I1 _ (turn_list a _) ⟨_, Heap.get?_push_size _ rfl, rfl, rfl⟩ q)
    | false =>
      obtain ⟨its, rv, p, hz⟩ := I1.tuple hq
      exact wpAny_pyIter_tuple (show s1.heap.IsTuple a its.toArray from p) (pi_one (tk := s1.toks) I1 _ (turn_tuple a _) ⟨_, Heap.get?_push_size _ rfl, rfl, rfl⟩ q)
  · obtain ⟨t, rfl⟩ := r1
    cases ha : z.cps.all (· < 128)
    · exact wpAny_pyIter_wide ha (pi_one (tk := s1.toks) I1 _ (turn_str _ z t "str_iterator" (.inr rfl)) ⟨_, Heap.get?_push_size _ rfl, rfl, rfl⟩ q)
    · exact wpAny_pyIter_ascii ha (pi_one (tk := s1.toks) I1 _ (turn_str _ z t "str_ascii_iterator" (.inl rfl)) ⟨_, Heap.get?_push_size _ rfl, rfl, rfl⟩ q)
/-- enumerate(e), zip(e, e') -/
def iEn (K : PySem.W.Frag) (ta : TA) : TI := fun σ H R => ta σ H fun vs H1 => ∃ b a xs, vs = [.ref a] ∧ sSq K b H1 a xs ∧ R (Ien K b a) H1
def iZi (K : PySem.W.Frag) (ta : TA) : TI := fun σ H R => ta σ H fun vs H1 => ∃ b b' a c xs ys, vs = [.ref a, .ref c] ∧ sSq K b H1 a xs ∧ sSq K b' H1 c ys ∧ R (Izi K b b' a c) H1
theorem pi_en {e : Expr} {ta : TA} {p pos tpos : Pos} {elts : List Expr} {kk : Nat} (hg : Gl X "enumerate") (hm : X.mg "enumerate" = none) (ha : PA X [e] ta) (hs : starEach [e] X.env = [(false, eval e X.env)] := by rfl) :
    PI X (.Tuple elts kk tpos) (.Call (.Name "enumerate" p) [e] [] pos) (iEn X.K ta) := by
  refine ⟨fun pins s σ H R I h => PyProof.Rows.Call_ (ld_blt I hg hm PyProof.Rows.boot_enumerate (PyProof.Rows.callWith_type1 (thn (ha.run pos pins s σ H _ I h) fun us s1 ⟨vs, H1, I1, r1, q1⟩ => ?_) hs rfl))⟩
  obtain ⟨b, a, xs, rfl, hq, q⟩ := q1
  cases r1 with
  | cons r rr =>
    cases rr
    cases r
    obtain ⟨its, rv, p'⟩ := sIs_of I1 hq
    refine enum1 (sBegins (its := its.toArray) b) p' fun h' he hit hk => wpAny_pyIter_enum he ?_
    have I2 : Inv X pins σ H1 { s1 with heap := h' } := I1.kept (t' := s1.toks) hk
    refine ⟨s1.heap.objs.size + 1, [s1.heap.objs.size + 1, s1.heap.objs.size], _, _, H1, rfl, I2, turn_en b a (s1.heap.objs.size + 1) s1.heap.objs.size, ⟨⟨.none, he⟩, sIt_new hit, Nat.succ_ne_self _⟩, fun c hc => ?_, q⟩
    have e' : c = s1.heap.objs.size + 1 ∨ c = s1.heap.objs.size := by simpa using hc
    have hle : s1.heap.objs.size ≤ c := by
      rcases e' with z | z
      · rw [z]; exact Nat.le_add_right _ _
      · rw [z]; exact Nat.le_refl _
    exact I1.fpOk hle (I1.hok.fresh hle)
theorem sIs_lt {b : Bool} {h : Heap} {a : Addr} {its : Array Value} (p : sIs b h a its) : a < h.objs.size := by
  obtain ⟨o, n, e, _⟩ := sIs_obj p
  exact Heap.lt_size e
theorem pi_zi {e e2 : Expr} {ta : TA} {p pos tpos : Pos} {elts : List Expr} {kk : Nat} (hg : Gl X "zip") (hm : X.mg "zip" = none) (ha : PA X [e, e2] ta)
    (hs : starEach [e, e2] X.env = (false, eval e X.env) :: starEach [e2] X.env := by rfl) (hpl : (backTo pos (starEach [e2] X.env)).any (·.1) = false := by rfl) :
    PI X (.Tuple elts kk tpos) (.Call (.Name "zip" p) [e, e2] [] pos) (iZi X.K ta) := by
  refine ⟨fun pins s σ H R I h => PyProof.Rows.Call_ (ld_blt I hg hm PyProof.Rows.boot_zip (PyProof.Rows.callWith_type1 (thn (ha.run pos pins s σ H _ I h) fun us s1 ⟨vs, H1, I1, r1, q1⟩ => ?_) hs hpl))⟩
  obtain ⟨b, b', a, c, xs, ys, rfl, hq, hq', q⟩ := q1
  cases r1 with
  | cons r rr =>
    cases rr with
    | cons r' rr =>
      cases rr
      cases r
      cases r'
      obtain ⟨its, rv, p1⟩ := sIs_of I1 hq
      obtain ⟨its', rv', p2⟩ := sIs_of I1 hq'
      refine zip_begins2 (sBegins (its := its.toArray) b) (sBegins (its := its'.toArray) b') p1 p2 fun h' gz gI gO g1 g2 hsz hk => wpAny_pyIter_zip gz ?_
      have S := zip_sep2 (N := s1.heap.objs.size) (fp1 := [a]) (fp2 := [c]) (fun q hq => by rw [List.mem_singleton.mp hq]; exact sIs_lt p1) (fun q hq => by rw [List.mem_singleton.mp hq]; exact sIs_lt p2)
      have I2 : Inv X pins σ H1 { s1 with heap := h' } := I1.kept (t' := s1.toks) hk
      refine ⟨_, _, _, _, H1, rfl, I2, turn_zi S, ⟨gz, gI, ⟨_, _, gO⟩, sIt_new g1, sIt_new g2⟩, fun d hd => ?_, q⟩
      have hle : s1.heap.objs.size ≤ d := by
        simp only [List.mem_cons, List.not_mem_nil, or_false] at hd
        rcases hd with z | z | z | z | z <;> rw [z] <;> first | exact Nat.le_add_right _ _ | exact Nat.le_refl _
      exact I1.fpOk hle (I1.hok.fresh hle)
end
/-! ### over data -/
section
variable {X : Cx} {E : XK} {tg e e2 : Expr} {w : WE} {wa : WA} {K : PySem.W.Frag} {Z : Res} {I1 : Hp}
theorem wlk_seq {b : Bool} {a : Addr} {vs : List V} {ds : List D} (h : sSq K b I1 a vs) (r : RepL K I1 vs ds) : Wlk K Z I1 (if b then Itl K a else Itt K a) ds := fun n I2 H2 i l wk => by
  have h2 : sSq K b H2 a vs := sSq_le (l.trans wk.ih) h
  cases b with
  | true =>
    refine ⟨fun d hd => ?_, fun hl => ⟨vs, h2, by rw [r.length]; exact Nat.le_of_eq hl⟩⟩
    obtain ⟨y, h3, h4⟩ := r.get hd
    exact ⟨⟨vs, y, h2, h3⟩, fun x H3 ⟨e1, e2⟩ => ⟨I2, by rw [e1]; exact wk.refl, by have := e2 vs h2; rw [h3] at this; cases this; exact h4.mono l⟩⟩
  | false =>
    refine ⟨fun d hd => ?_, fun hl => ⟨vs, h2, by rw [r.length]; exact Nat.le_of_eq hl⟩⟩
    obtain ⟨y, h3, h4⟩ := r.get hd
    exact ⟨⟨vs, y, h2, h3⟩, fun x H3 ⟨e1, e2⟩ => ⟨I2, by rw [e1]; exact wk.refl, by have := e2 vs h2; rw [h3] at this; cases this; exact h4.mono l⟩⟩
theorem wlk_str {z : Str} : Wlk K Z I1 (Its z) (z.cps.toList.map fun c => .str ⟨#[c]⟩) := fun n I2 H2 i l wk => by
  refine ⟨fun d hd => ?_, fun hl => ?_⟩
  · rw [List.getElem?_map] at hd
    cases q : z.cps.toList[i]? with
    | none => rw [q] at hd; cases hd
    | some c =>
      rw [q] at hd
      cases hd
      have hc : z.cps[i]? = some c := by simpa using q
      refine ⟨?_, fun x H3 ⟨e1, c', e2, e3⟩ => ⟨I2, by rw [e1]; exact wk.refl, ?_⟩⟩
      · show i < z.cps.size
        exact (Array.getElem?_eq_some_iff.mp hc).1
      · rw [hc] at e2
        cases e2
        rw [e3]
        exact .str _
  · show z.cps.size ≤ i
    rw [← hl]
    simp
theorem ints_rep {I : Hp} : ∀ ns : List Int, RepL K I (ns.map V.int) (ns.map D.int)
  | [] => .nil
  | n :: ns => .cons (.int n) (ints_rep ns)
theorem di_seq (h : DE X E e w) : DI X E tg e (wItems w) := by
  obtain ⟨t, p, s⟩ := h
  refine ⟨_, pi_seq p, fun Z I0 H0 cx n δ σ I H P R hx he hw hq => s Z I0 H0 cx n δ σ I H _ _ hx he hw fun d v n1 I1 H1 s1 r1 ⟨xs, h1, h2⟩ => ?_⟩
  cases r1 with
  | lst g r =>
    cases h1
    exact .inl ⟨true, _, rfl, ⟨_, .inl (.inl (s1.wk.ih _ _ g))⟩, hq _ _ n1 I1 H1 s1 (wlk_seq (b := true) (.inl (.inl g)) r) h2⟩
  | tup g r =>
    cases h1
    exact .inl ⟨false, _, rfl, ⟨_, s1.wk.ih.sqT g⟩, hq _ _ n1 I1 H1 s1 (wlk_seq (b := false) g r) h2⟩
  | scr g =>
    cases h1
    exact .inl ⟨true, _, rfl, ⟨_, s1.wk.ih.sqL g⟩, hq _ _ n1 I1 H1 s1 (wlk_seq (b := true) g (ints_rep _)) h2⟩
  | str z =>
    cases h1
    exact .inr ⟨z, rfl, hq _ _ n1 I1 H1 s1 wlk_str h2⟩
  | _ => cases h1
def seqD : D → Option (List D)
  | .lst xs => some xs
  | .tup xs => some xs
  | _ => none
theorem sSq_of {I : Hp} {v : V} {d : D} {xs : List D} (r : Rep K I v d) (h : seqD d = some xs) : ∃ b a vs, v = .ref a ∧ sSq K b I a vs ∧ RepL K I vs xs := by
  cases r with
  | lst g r => cases h; exact ⟨true, _, _, rfl, .inl (.inl g), r⟩
  | tup g r => cases h; exact ⟨false, _, _, rfl, g, r⟩
  | _ => cases h
/-- enumerate -/
def enD (xs : List D) : List D := xs.mapIdx fun i d => .tup [.int (i : Nat), d]
def wEn (wa : WA) : WA := fun c n δ P => wa c n δ fun n1 ds => ∃ d xs, ds = [d] ∧ seqD d = some xs ∧ P n1 (enD xs)
theorem di_enum {p pos tpos : Pos} {elts : List Expr} {kk : Nat} (hm : X.mg "enumerate" = none) (ha : DA X E [e] wa) (hg : Gl X "enumerate" := by rfl) (hs : starEach [e] X.env = [(false, eval e X.env)] := by rfl) :
    DI X E (.Tuple elts kk tpos) (.Call (.Name "enumerate" p) [e] [] pos) (wEn wa) := by
  obtain ⟨t, pa, s⟩ := ha
  refine ⟨_, pi_en hg hm pa hs, fun Z I0 H0 cx n δ σ I H P R hx he hw hq => s Z I0 H0 cx n δ σ I H _ _ hx he hw fun ds vs n1 I1 H1 s1 r1 h1 => ?_⟩
  obtain ⟨d, xs, rfl, h2, h3⟩ := h1
  cases r1 with
  | cons r rr =>
    cases rr
    obtain ⟨b, a, us, rfl, hs1, rl⟩ := sSq_of r h2
    refine ⟨b, a, us, rfl, sSq_le s1.wk.ih hs1, hq _ _ n1 I1 H1 s1 (fun n I2 H2 i l wk => ?_) h3⟩
    have h4 : sSq X.K b H2 a us := sSq_le (l.trans wk.ih) hs1
    refine ⟨fun d' hd => ?_, fun hl => ⟨us, h4, by rw [rl.length]; simpa [enD] using hl⟩⟩
    unfold enD at hd
    rw [List.getElem?_mapIdx] at hd
    cases q : xs[i]? with
    | none => rw [q] at hd; cases hd
    | some x =>
      rw [q] at hd
      cases hd
      obtain ⟨y, h5, h6⟩ := rl.get q
      refine ⟨⟨us, y, h4, h5⟩, fun v H3 ⟨T, x', e1, e2, e3, e4⟩ => ?_⟩
      have := e4 us h4
      rw [h5] at this
      cases this
      subst e1 e3
      exact ⟨_, wk.laid e2, mk_tup wk e2 (.cons (.int _) (.cons (h6.mono l) .nil))⟩
/-- zip of two -/
def ziD (xs ys : List D) : List D := List.zipWith (fun a b => .tup [a, b]) xs ys
def wZi (wa : WA) : WA := fun c n δ P => wa c n δ fun n1 ds => ∃ d e xs ys, ds = [d, e] ∧ seqD d = some xs ∧ seqD e = some ys ∧ P n1 (ziD xs ys)
theorem di_zip {p pos tpos : Pos} {elts : List Expr} {kk : Nat} (hm : X.mg "zip" = none) (ha : DA X E [e, e2] wa) (hg : Gl X "zip" := by rfl) (hs : starEach [e, e2] X.env = (false, eval e X.env) :: starEach [e2] X.env := by rfl) (hpl : (backTo pos (starEach [e2] X.env)).any (·.1) = false := by rfl) :
    DI X E (.Tuple elts kk tpos) (.Call (.Name "zip" p) [e, e2] [] pos) (wZi wa) := by
  obtain ⟨t, pa, s⟩ := ha
  refine ⟨_, pi_zi hg hm pa hs hpl, fun Z I0 H0 cx n δ σ I H P R hx he hw hq => s Z I0 H0 cx n δ σ I H _ _ hx he hw fun ds vs n1 I1 H1 s1 r1 h1 => ?_⟩
  obtain ⟨d, e', xs, ys, rfl, h2, h2', h3⟩ := h1
  cases r1 with
  | cons r rr =>
    cases rr with
    | cons r' rr =>
      cases rr
      obtain ⟨b, a, us, rfl, hs1, rl⟩ := sSq_of r h2
      obtain ⟨b', a', us', rfl, hs1', rl'⟩ := sSq_of r' h2'
      refine ⟨b, b', a, a', us, us', rfl, sSq_le s1.wk.ih hs1, sSq_le s1.wk.ih hs1', hq _ _ n1 I1 H1 s1 (fun n I2 H2 i l wk => ?_) h3⟩
      have h4 : sSq X.K b H2 a us := sSq_le (l.trans wk.ih) hs1
      have h4' : sSq X.K b' H2 a' us' := sSq_le (l.trans wk.ih) hs1'
      refine ⟨fun d' hd => ?_, fun hl => ⟨us, us', h4, h4', by rw [rl.length, rl'.length]; simpa [ziD] using hl⟩⟩
      unfold ziD at hd
      rw [List.getElem?_zipWith] at hd
      cases q : xs[i]? with
      | none => rw [q] at hd; simp at hd
      | some x =>
        cases q' : ys[i]? with
        | none => rw [q, q'] at hd; simp at hd
        | some y =>
          rw [q, q'] at hd
          simp at hd
          subst hd
          obtain ⟨u, h5, h6⟩ := rl.get q
          obtain ⟨u', h5', h6'⟩ := rl'.get q'
          refine ⟨⟨us, us', u, u', h4, h4', h5, h5'⟩, fun v H3 ⟨T, x1, x2, e1, e2, e3, e4, e5⟩ => ?_⟩
          have k1 := e4 us h4
          have k2 := e5 us' h4'
          rw [h5] at k1
          rw [h5'] at k2
          cases k1
          cases k2
          subst e1 e3
          exact ⟨_, wk.laid e2, mk_tup wk e2 (.cons (h6.mono l) (.cons (h6'.mono l) .nil))⟩
/-- range -/
def rgD (lo hi : Int) : List D := (List.range (hi - lo).toNat).map fun i => .int (lo + (i : Nat))
def wRg1 (wa : WA) : WA := fun c n δ P => wa c n δ fun n1 ds => ∃ j, ds = [.int j] ∧ -(2 ^ 62) ≤ j ∧ j < 2 ^ 62 ∧ P n1 (rgD 0 j)
def wRg2 (wa : WA) : WA := fun c n δ P => wa c n δ fun n1 ds => ∃ i j, ds = [.int i, .int j] ∧ (-(2 ^ 62) ≤ i ∧ i < 2 ^ 62 ∧ -(2 ^ 62) ≤ j ∧ j < 2 ^ 62) ∧ P n1 (rgD i j)
theorem wlk_rg {lo hi : Int} : Wlk K Z I1 (Itr lo (hi - lo).toNat) (rgD lo hi) := fun n I2 H2 i l wk => by
  refine ⟨fun d hd => ?_, fun hl => ?_⟩
  · unfold rgD at hd
    rw [List.getElem?_map] at hd
    by_cases q : i < (hi - lo).toNat
    · rw [List.getElem?_range q] at hd
      cases hd
      exact ⟨q, fun x H3 ⟨e1, e2⟩ => ⟨I2, by rw [e1]; exact wk.refl, by rw [e2]; exact .int _⟩⟩
    · rw [List.getElem?_eq_none (by simpa using q)] at hd
      cases hd
  · show (hi - lo).toNat ≤ i
    rw [← hl]
    simp [rgD]
theorem int_of {I : Hp} {v : V} {i : Int} (r : Rep K I v (.int i)) : v = .int i := by cases r; rfl
theorem di_range1 {p pos : Pos} (hm : X.mg "range" = none) (ha : DA X E [e] wa) (hg : Gl X "range" := by rfl) (hs : starEach [e] X.env = [(false, eval e X.env)] := by rfl) : DI X E tg (.Call (.Name "range" p) [e] [] pos) (wRg1 wa) := by
  obtain ⟨t, pa, s⟩ := ha
  refine ⟨_, pi_range1 hg hm pa hs, fun Z I0 H0 cx n δ σ I H P R hx he hw hq => s Z I0 H0 cx n δ σ I H _ _ hx he hw fun ds vs n1 I1 H1 s1 r1 h1 => ?_⟩
  obtain ⟨j, rfl, h2, h3, h4⟩ := h1
  cases r1 with
  | cons r rr =>
    cases rr
    cases int_of r
    refine ⟨j, rfl, h2, h3, hq _ _ n1 I1 H1 s1 ?_ h4⟩
    have := wlk_rg (K := X.K) (Z := Z) (I1 := I1) (lo := 0) (hi := j)
    rwa [Int.sub_zero] at this
theorem di_range2 {p pos : Pos} (hm : X.mg "range" = none) (ha : DA X E [e, e2] wa) (hg : Gl X "range" := by rfl) (hs : starEach [e, e2] X.env = [(false, eval e X.env), (false, eval e2 X.env)] := by rfl) (hs2 : starEach [e2] X.env = [(false, eval e2 X.env)] := by rfl) : DI X E tg (.Call (.Name "range" p) [e, e2] [] pos) (wRg2 wa) := by
  obtain ⟨t, pa, s⟩ := ha
  refine ⟨_, pi_range2 hg hm pa hs hs2, fun Z I0 H0 cx n δ σ I H P R hx he hw hq => s Z I0 H0 cx n δ σ I H _ _ hx he hw fun ds vs n1 I1 H1 s1 r1 h1 => ?_⟩
  obtain ⟨i, j, rfl, h2, h4⟩ := h1
  cases r1 with
  | cons r rr =>
    cases rr with
    | cons r' rr =>
      cases rr
      cases int_of r
      cases int_of r'
      exact ⟨i, j, rfl, h2, hq _ _ n1 I1 H1 s1 wlk_rg h4⟩
end
end Dt

/-! DtG: list comprehensions. -/
namespace Dt
open PySem L2

/-! ### readings by data -/
def canE (K : PySem.W.Frag) (E : XK) (w : WE) : TE := fun σ H Q => ∃ (Z : Res) (I0 H0 : Hp) (cx : Nat → Xn → Prop) (n : Nat) (δ : List Sl) (I : Hp) (P : Nat → D → Prop),
  XR K E Z I0 H0 cx ∧ Ev K Z I0 H0 n δ σ I H ∧ w ⟨Z, cx⟩ n δ P ∧ ∀ d v n' I' H', Stp Z I H n' I' H' → Rep K I' v d → P n' d → Q v H'
def canT (K : PySem.W.Frag) (E : XK) (w : WT) : TT := fun σ H Q => ∃ (Z : Res) (I0 H0 : Hp) (cx : Nat → Xn → Prop) (n : Nat) (δ : List Sl) (I : Hp) (P : Nat → Bool → Prop),
  XR K E Z I0 H0 cx ∧ Ev K Z I0 H0 n δ σ I H ∧ w ⟨Z, cx⟩ n δ P ∧ ∀ b n' I' H', Stp Z I H n' I' H' → P n' b → Q b H'
def canG (K : PySem.W.Frag) (ts : List Nat) (w : WG) : TG := fun v σ H Q => ∃ (Z : Res) (I0 H0 : Hp) (n : Nat) (δ : List Sl) (I : Hp) (d : D) (P : List Sl → Prop),
  Ev K Z I0 H0 n δ σ I H ∧ Rep K I v d ∧ w d δ P ∧ ∀ δ' σ', Ev K Z I0 H0 n δ' σ' I H → Onl ts σ σ' → P δ' → Q σ' H
section
variable {X : Cx} {E : XK}
theorem DE.can {e : Expr} {w : WE} (h : DE X E e w) : PE X e (canE X.K E w) := by
  obtain ⟨t, p, s⟩ := h
  exact ⟨fun pins sh σ H Q I ⟨Z, I0, H0, cx, n, δ, J, P, hx, he, hw, hq⟩ => p.run pins sh σ H Q I (s Z I0 H0 cx n δ σ J H P Q hx he hw hq)⟩
theorem DT.can {e : Expr} {w : WT} (h : DT X E e w) : PT X e (canT X.K E w) := by
  obtain ⟨t, p, s⟩ := h
  exact ⟨fun pins sh σ H Q I ⟨Z, I0, H0, cx, n, δ, J, P, hx, he, hw, hq⟩ => p.run pins sh σ H Q I (s Z I0 H0 cx n δ σ J H P Q hx he hw hq)⟩
theorem DG.can {tg : Expr} {ts : List Nat} {w : WG} (h : DG X tg ts w) : PG X tg (canG X.K ts w) := by
  obtain ⟨t, p, s⟩ := h
  exact ⟨fun pins sh σ H v u Q I r ⟨Z, I0, H0, n, δ, J, d, P, he, rp, hw, hq⟩ => p.run pins sh σ H v u Q I r (s Z I0 H0 n δ σ J H v d P Q he rp hw hq)⟩
/-- a clause's tests: none, one -/
def DTs (X : Cx) (E : XK) (ifs : List Expr) (w : WT) : Prop := PTs X ifs (canT X.K E w)
def wYes : WT := fun _ n _ P => P n true
theorem dts_nil : DTs X E [] wYes := ⟨fun pins sh σ H Q I ⟨Z, I0, H0, cx, n, δ, J, P, hx, he, hw, hq⟩ => (pts_nil (X := X)).run pins sh σ H Q I (hq true n J H he.wk.refl hw)⟩
theorem dts_one {c : Expr} {w : WT} (h : DT X E c w) : DTs X E [c] w := pts_one h.can
end

def wipeD (δ : List Sl) : List Nat → List Sl
  | [] => δ
  | v :: vs => (wipeD δ vs).set v .un
theorem wipeD_len (δ : List Sl) : ∀ vs : List Nat, (wipeD δ vs).length = δ.length
  | [] => rfl
  | v :: vs => by rw [wipeD, List.length_set, wipeD_len δ vs]
theorem wipeD_out {δ : List Sl} {i : Nat} : ∀ {vs : List Nat}, i ∉ vs → (wipeD δ vs)[i]? = δ[i]?
  | [], _ => rfl
  | v :: vs, h => by
    rw [List.mem_cons, not_or] at h
    rw [wipeD, List.getElem?_set_ne (fun z => h.1 z.symm), wipeD_out h.2]
theorem wipeD_in {δ : List Sl} {i : Nat} : ∀ {vs : List Nat}, i ∈ vs → i < δ.length → (wipeD δ vs)[i]? = some .un
  | [], h, _ => nomatch h
  | v :: vs, h, l => by
    by_cases q : v = i
    · subst q
      rw [wipeD, List.getElem?_set_self (by rw [wipeD_len]; exact l)]
    · rw [wipeD, List.getElem?_set_ne q]
      exact wipeD_in ((List.mem_cons.mp h).resolve_left (fun z => q z.symm)) l
theorem wipe_in {σ : L2.St} {i : Nat} : ∀ {vs : List Nat}, i ∈ vs → i < σ.length → (wipe σ vs)[i]? = some none
  | [], h, _ => nomatch h
  | v :: vs, h, l => by
    by_cases q : v = i
    · subst q
      rw [wipe, List.getElem?_set_self (by rw [wipe_length]; exact l)]
    · rw [wipe, List.getElem?_set_ne q]
      exact wipe_in ((List.mem_cons.mp h).resolve_left (fun z => q z.symm)) l
theorem wipe_ext {σ τ : L2.St} {ts vs : List Nat} (o : Onl ts (wipe σ vs) τ) (h : ∀ i ∈ ts, i ∈ vs) : wipe τ vs = wipe σ vs := by
  have hl : τ.length = σ.length := o.len.trans (wipe_length σ vs)
  apply List.ext_getElem?
  intro i
  by_cases q : i ∈ vs
  · by_cases l : i < σ.length
    · rw [wipe_in q (by rw [hl]; exact l), wipe_in q l]
    · rw [List.getElem?_eq_none (by rw [wipe_length, hl]; omega), List.getElem?_eq_none (by rw [wipe_length]; omega)]
  · rw [wipe_out q, o.out i (fun z => q (h i z))]
section
variable {K : PySem.W.Frag} {Z : Res} {n n1 : Nat} {I0 H0 I H I1 H1 : Hp} {δ : List Sl} {σ : L2.St}
theorem Ev.wipe (e : Ev K Z I0 H0 n δ σ I H) (vs : List Nat) : Ev K Z I0 H0 n (wipeD δ vs) (wipe σ vs) I H := by
  have un : ∀ (i : Nat) (s : Sl), (wipeD δ vs)[i]? = some s → s ≠ .un → i ∉ vs ∧ δ[i]? = some s := fun i s h hn => by
    have q : i ∉ vs := fun q => by
      by_cases l : i < δ.length
      · rw [wipeD_in q l] at h
        exact hn (Option.some.inj h).symm
      · rw [List.getElem?_eq_none (by rw [wipeD_len]; omega)] at h
        cases h
    rw [wipeD_out q] at h
    exact ⟨q, h⟩
  refine ⟨e.st, by rw [wipe_length, wipeD_len]; exact e.len, fun i d h => ?_, fun i d h => ?_, fun i j d f a h1 h2 h3 h4 => ?_⟩
  · obtain ⟨q, h'⟩ := un i _ h (fun z => nomatch z)
    rw [wipe_out q]
    exact e.vals i d h'
  · obtain ⟨q, h'⟩ := un i _ h (fun z => nomatch z)
    rw [wipe_out q]
    exact e.owns i d h'
  · obtain ⟨q, h'⟩ := un i _ h1 (fun z => nomatch z)
    obtain ⟨q2, h2'⟩ := un j _ h2 (fun z => nomatch z)
    rw [wipe_out q] at h3
    rw [wipe_out q2] at h4
    exact e.sep i j d f a h' h2' h3 h4
theorem Stp.mutY {p : Addr} {o : HO} (s : Stp Z I H n1 I1 H1) (hp : H p = none) (nf : ¬ Z.F p) (hi : I1 p = none) : Stp Z I H n1 I1 (upd H1 p o) where
  wk := ⟨fun a u e => by
    rw [upd_ne (fun (q : a = p) => by rw [q, hi] at e; cases e)]
    exact s.wk.ih a u e, Z.loc _ H1 _ (fun a f => upd_ne (fun (q : a = p) => nf (q ▸ f))) s.wk.j, s.wk.zf, fun a f => by
    rw [upd_ne (fun (q : a = p) => nf (q ▸ f))]
    exact s.wk.zl a f⟩
  ex := s.ex
  kp := fun a u f e => by
    rw [upd_ne (fun (q : a = p) => by rw [q, hp] at e; cases e)]
    exact s.kp a u f e
  nw := s.nw
end
/-- one item after the other: what is made of them -/
def wLoop (g : WG) (t : WT) (e : WE) (c : Ct) (δ : List Sl) : List D → Nat → (Nat → List D → Prop) → Prop
  | [], n, P => P n []
  | d :: ds, n, P => g d δ fun δ' => t c n δ' fun n1 b => if b = true then e c n1 δ' fun n2 y => wLoop g t e c δ ds n2 fun n3 ys => P n3 (y :: ys) else wLoop g t e c δ ds n1 P
def wLc (wi : WA) (g : WG) (t : WT) (e : WE) (vs : List Nat) : WE := fun c n δ P => wi c n δ fun n1 ds => ds.length ≤ sizeLine ∧ wLoop g t e ⟨c.Z, fun _ _ => False⟩ (wipeD δ vs) ds n1 fun n2 ys => P n2 (.lst ys)
theorem XR.no {K : PySem.W.Frag} {Z : Res} {I0 H0 : Hp} {E : XK} : XR K E Z I0 H0 (fun _ _ => False) := fun _ _ _ _ _ _ _ h => h.elim
theorem SF.lc {K : PySem.W.Frag} {E : XK} {ti : TI} {wi : WA} {g : WG} {t : WT} {e : WE} {ts vs : List Nat} (hi : SI K E ti wi) (hts : ∀ i ∈ ts, i ∈ vs) : SF K E (tLc ti (canG K ts g) (canT K E0 t) (canE K E0 e) vs) (wLc wi g t e vs) := fun Z I0 H0 cx n δ σ I H P Q hx he hw hq =>
  hi Z I0 H0 cx n δ σ I H _ _ hx he hw fun ds J n1 I1 H1 s1 wl ⟨hsz, h1⟩ D' hD => by
    have hHD : H D' = none := by
      cases z : H D' with
      | none => rfl
      | some o => exact absurd hD (s1.live (by rw [z]; exact fun y => nomatch y))
    have nf : ¬ Z.F D' := s1.wk.nf hD
    have e1 : Ev K Z I0 H0 n1 δ σ I1 H1 := he.step s1
    refine ⟨fun i m H' => m = ds.length - i ∧ i ≤ ds.length ∧ ∃ (n' : Nat) (I' : Hp) (acc : List V) (ad : List D), Stp Z I1 H1 n' I' H' ∧ I' D' = none ∧ H' D' = some (.lst acc) ∧ RepL K I' acc ad ∧ acc.length ≤ i ∧ wLoop g t e ⟨Z, fun _ _ => False⟩ (wipeD δ vs) (ds.drop i) n' (fun m ys => P m (.lst (ad ++ ys))),
      ⟨ds.length, by simp, Nat.zero_le _, n1, I1, [], [], s1.wk.young hD, s1.wk.ih.free hD, upd_same, .nil, Nat.le_refl _, by simpa using h1⟩, ?_⟩
    rintro i m H' ⟨rfl, hle, n', I', acc, ad, s', hI, hH, hr, hacc, h'⟩
    obtain ⟨w1, w2⟩ := wl n' I' H' i s'.ex s'.wk
    by_cases hlt : i < ds.length
    · obtain ⟨d, hd⟩ : ∃ d, ds[i]? = some d := ⟨ds[i], List.getElem?_eq_getElem hlt⟩
      have e2 : ds.drop i = d :: ds.drop (i + 1) := by
        rw [List.drop_eq_getElem_cons hlt]
        congr
        have := List.getElem?_eq_getElem hlt
        rw [this] at hd
        exact Option.some.inj hd
      rw [e2] at h'
      obtain ⟨g1, g2⟩ := w1 d hd
      refine .inr ⟨g1, fun H2 => ∃ (n' : Nat) (I' : Hp) (acc : List V) (ad : List D), Stp Z I1 H1 n' I' H2 ∧ I' D' = none ∧ H2 D' = some (.lst acc) ∧ RepL K I' acc ad ∧ acc.length ≤ i + 1 ∧ wLoop g t e ⟨Z, fun _ _ => False⟩ (wipeD δ vs) (ds.drop (i + 1)) n' (fun m ys => P m (.lst (ad ++ ys))),
        fun H2 q => ⟨ds.length - (i + 1), by omega, rfl, hlt, q⟩, fun x H3 hy => ?_⟩
      obtain ⟨I3, s3, r3⟩ := g2 x H3 hy
      have live : ∀ {o : HO}, some o ≠ (none : Option HO) := fun z => nomatch z
      have k3 : H3 D' = some (.lst acc) := s3.kp D' _ nf hH
      have n3 : I3 D' = none := s3.nw D' hI (by rw [hH]; exact live)
      refine ⟨Z, I0, H0, n', wipeD δ vs, I3, d, _, ((e1.step s').step s3).wipe vs, r3, h', fun δ2 σ2 he2 on h2 => ⟨wipe_ext on hts, Z, I0, H0, _, n', δ2, I3, _, XR.no, he2, h2, fun b n4' I4 H4 s4 h4 => ?_⟩⟩
      have k4 : H4 D' = some (.lst acc) := s4.kp D' _ nf k3
      have n4 : I4 D' = none := s4.nw D' n3 (by rw [k3]; exact live)
      cases b with
      | true =>
        dsimp only at h4 ⊢
        rw [if_pos rfl] at h4 ⊢
        refine ⟨Z, I0, H0, _, n4', δ2, I4, _, XR.no, he2.step s4, h4, fun y v n5' I5 H5 s5 r5 h5 => ?_⟩
        have k5 : H5 D' = some (.lst acc) := s5.kp D' _ nf k4
        have n5 : I5 D' = none := s5.nw D' n4 (by rw [k4]; exact live)
        refine ⟨acc, k5, by omega, n5', I5, acc ++ [v], ad ++ [y], ((s'.trans s3).trans (s4.trans s5)).mutY hD nf n5, n5, upd_same, (hr.mono (s3.ex.trans (s4.ex.trans s5.ex))).append (.cons r5 .nil), by rw [List.length_append]; simp; omega, ?_⟩
        simpa using h5
      | false =>
        dsimp only at h4 ⊢
        rw [if_neg (by decide)] at h4 ⊢
        exact ⟨n4', I4, acc, ad, (s'.trans s3).trans s4, n4, k4, hr.mono (s3.ex.trans s4.ex), by omega, h4⟩
    · have e2 : ds.drop i = [] := List.drop_eq_nil_of_le (by omega)
      rw [e2] at h'
      refine .inl ⟨w2 (by omega), hq (.lst ad) D' n' I' H' (s1.trans s') hHD hI nf ⟨acc, hH, hr⟩ ?_⟩
      have h2 : P n' (.lst (ad ++ [])) := h'
      simpa using h2
section
variable {X : Cx} {E : XK} {k : Nat} {elt tg iter : Expr} {ifs : List Expr} {scope : Scope} {own : List (Str × Nat)} {pos : Pos} {wi : WA} {g : WG} {t : WT} {e : WE} {ts : List Nat}
/-- a comprehension's parts -/
structure DLc (X : Cx) (E : XK) (elt tg iter : Expr) (ifs : List Expr) (scope : Scope) (own : List (Str × Nat)) (w : WE) : Prop where
  ex : ∃ ti tg' tt te, PI X tg iter ti ∧ BlkOk X.N X.env.scope scope own ∧ (∀ (s : Shared) (H : Hp) (C : Addr) (cl : List (Str × Addr)) (fp : List Addr), PG (X.blk s H scope (compEnvC scope cl C X.env) fp) tg tg') ∧
    (∀ (s : Shared) (H : Hp) (C : Addr) (cl : List (Str × Addr)) (fp : List Addr), PTs (X.blk s H scope (compEnvC scope cl C X.env) fp) ifs tt) ∧ (∀ (s : Shared) (H : Hp) (C : Addr) (cl : List (Str × Addr)) (fp : List Addr), PE (X.blk s H scope (compEnvC scope cl C X.env) fp) elt te) ∧
    SF X.K E (tLc ti tg' tt te (own.map (·.2))) w
theorem dlc (hi : DI X E tg iter wi) (own : List (Str × Nat)) (ok : blkC X.N X.env.scope scope own = true) (hg : ∀ (s : Shared) (H : Hp) (C : Addr) (cl : List (Str × Addr)) (fp : List Addr), DG (X.blk s H scope (compEnvC scope cl C X.env) fp) tg ts g)
    (ht : ∀ (s : Shared) (H : Hp) (C : Addr) (cl : List (Str × Addr)) (fp : List Addr), DTs (X.blk s H scope (compEnvC scope cl C X.env) fp) E0 ifs t)
    (he : ∀ (s : Shared) (H : Hp) (C : Addr) (cl : List (Str × Addr)) (fp : List Addr), DE (X.blk s H scope (compEnvC scope cl C X.env) fp) E0 elt e) (hts : ∀ i ∈ ts, i ∈ own.map (·.2)) : DLc X E elt tg iter ifs scope own (wLc wi g t e (own.map (·.2))) := by
  obtain ⟨ti, pi, si⟩ := hi
  exact ⟨ti, _, _, _, pi, blkOk_by ok, fun s H C cl fp => (hg s H C cl fp).can, fun s H C cl fp => show PTs _ ifs (canT X.K E0 t) from ht s H C cl fp, fun s H C cl fp => (he s H C cl fp).can, SF.lc si hts⟩
theorem df_lc {w : WE} {q : Bool} (gx : Gx X E k q) (h : DLc X E elt tg iter ifs scope own w) (hs : ∀ x, foldedSetIterable iter X.env x = pure x := by intro _; rfl) : DF X E (.ListComp elt [⟨tg, iter, ifs, 0⟩] scope pos) w := by
  obtain ⟨ti, tg', tt, te, pi, ok, pg, pt, pe, s⟩ := h.ex
  exact ⟨_, pe_lc gx.calm gx.nd pi ok pg pt pe hs, s⟩
variable {y : Str} {py spos : Pos} {i : Nat}
/-- name = [..] -/
theorem ds_setLc {w : WE} {q : Bool} (gx : Gx X E k q) (i : Nat) (h : DLc X E elt tg iter ifs scope own w) (hsw : swapsWith (.ListComp elt [⟨tg, iter, ifs, 0⟩] scope pos) (some (.Name y py)) spos.line X.env = pure true) (hy : X.N[i]? = some y := by rfl) (hyl : X.env.scope.names.lookup y = some .local := by rfl)
    (hs : ∀ x, foldedSetIterable iter X.env x = pure x := by intro _; rfl) : DS X E (.Assign [.Name y py] (.ListComp elt [⟨tg, iter, ifs, 0⟩] scope pos) spos) (wSet i w) := by
  obtain ⟨ti, tg', tt, te, pi, ok, pg, pt, pe, s⟩ := h.ex
  exact ⟨_, ps_setLc gx.calm gx.nd hy hyl hsw pi ok pg pt pe hs, SS.set s.se⟩
theorem ds_ownLc {w : WE} {q : Bool} (gx : Gx X E k q) (i : Nat) (h : DLc X E elt tg iter ifs scope own w) (hsw : swapsWith (.ListComp elt [⟨tg, iter, ifs, 0⟩] scope pos) (some (.Name y py)) spos.line X.env = pure true) (hy : X.N[i]? = some y := by rfl) (hyl : X.env.scope.names.lookup y = some .local := by rfl)
    (hs : ∀ x, foldedSetIterable iter X.env x = pure x := by intro _; rfl) : DS X E (.Assign [.Name y py] (.ListComp elt [⟨tg, iter, ifs, 0⟩] scope pos) spos) (wOwn i w) := by
  obtain ⟨ti, tg', tt, te, pi, ok, pg, pt, pe, s⟩ := h.ex
  exact ⟨_, ps_setLc gx.calm gx.nd hy hyl hsw pi ok pg pt pe hs, SS.own s⟩
end
end Dt

/-! DtH: subscripts, slices, built-in functions and methods. -/
namespace Dt
open PySem L2

/-! ### d[i] -/
section
variable {K : PySem.W.Frag} {I H : Hp}
theorem atI_rep {vs : List V} {ds : List D} {i : Int} {x : D} (r : RepL K I vs ds) (h : atI ds i = some x) : ∃ y, atI vs i = some y ∧ Rep K I y x := by
  unfold atI at h ⊢
  rw [r.length]
  cases q : ixN ds.length i with
  | none => rw [q] at h; cases h
  | some j =>
    rw [q] at h
    exact r.get h
end
def look (kvs : List (Key × D)) (k : Key) : Option D := (kvs.find? fun kv => decide (kv.1 = k)).map (·.2)
theorem look_rep {K : PySem.W.Frag} {I : Hp} {k : Key} : ∀ {vs : List (Key × V)} {ds : List (Key × D)}, RepM K I vs ds → (∀ x, look ds k = some x → ∃ y, valV vs k = some y ∧ Rep K I y x) ∧ (look ds k = none → valV vs k = none)
  | _, _, .nil => ⟨fun x h => (by cases h), fun _ => rfl⟩
  | _, _, .cons (k := j) (v := v) (d := d) h r => by
    by_cases q : j = k
    · constructor
      · intro x e
        have this : ∀ ds, look ((j, d) :: ds) k = some d := fun ds => by simp [look, List.find?_cons, q]
        rw [this] at e
        cases e
        exact ⟨_, valV_pos (p := (j, v)) q, h⟩
      · intro e
        have this : ∀ ds, look ((j, d) :: ds) k = some d := fun ds => by simp [look, List.find?_cons, q]
        rw [this] at e
        cases e
    · have e1 : ∀ ds, look ((j, d) :: ds) k = look ds k := fun ds => by simp [look, List.find?_cons, q]
      obtain ⟨h1, h2⟩ := look_rep (k := k) r
      rw [e1, valV_neg (p := (j, v)) q]
      exact ⟨h1, h2⟩
def keyD : D → Option Key
  | .int i => some (.inl i)
  | .str s => some (.inr s)
  | _ => none
theorem key_rep {K : PySem.W.Frag} {I : Hp} {v : V} {d : D} {k : Key} (r : Rep K I v d) (h : keyD d = some k) : v = kV k := by
  cases r with
  | int i => cases h; rfl
  | str s => cases h; rfl
  | _ => cases h
def ixW : W2
  | .lst xs, .int i, P => ∃ x, atI xs i = some x ∧ P x
  | .tup xs, .int i, P => ∃ x, atI xs i = some x ∧ P x
  | .str s, .int i, P => s.length ≤ sizeLine ∧ ∃ c, atI s.cps.toList i = some c ∧ P (.str ⟨#[c]⟩)
  | .dct kvs, k, P => ∃ q x, keyD k = some q ∧ look kvs q = some x ∧ P x
  | _, _, _ => False
section
variable {X : Cx} {E : XK} {k : Nat}
theorem ix_dct (hu : X.A.units + 1 < cLine) : IxR X (fun x y H Q => ∃ a v, x = .ref a ∧ DGet H a y (some v) ∧ Q v H) := by
  intro value slice pins s σ H x y v u Q I rx ry ⟨a, w, e, g, q⟩ hs
  subst e
  obtain rfl : v = Value.ref a := rx
  have hT := dict_typeIs I g
  unfold PyProof.Rows.subscriptTail
  refine wpAny_bind ?_
  rw [getitemInPython_of_ne hT.not_modules]
  refine wpAny_bind (wpAny_specialOf hT PySem.F.slot_dict_getitem.lookup ?_)
  have fin : wpAny (model X.prog X.w) X.A (subscripted slice false (.ref a) u) (fun r s₃ => wpAny (model X.prog X.w) X.A (letTemporaryGo value (.ref a) r >>= fun _ => pure r) (EP X pins σ Q) X.xe s₃) X.xe s := by
    rw [hs]
    exact wpAny_operating (d_getItem hu I g ry fun w' s3 I3 rw' => wpAny_bind (wpAny_letTemporaryGo (wpAny_pure ⟨w, H, I3, rw', q⟩)))
  first
    | exact wpAny_pure (wpAny_bind fin)
    | exact wpAny_bind (wpAny_pure (wpAny_bind fin))
    | exact wpAny_bind fin
theorem opd_ix {K : PySem.W.Frag} : OpD K (fun x y H Q => rIx K x y H Q ∨ ∃ a v, x = .ref a ∧ DGet H a y (some v) ∧ Q v H) ixW := fun Z n I H x y d e P Q w rx ry hf hq => by
  cases rx with
  | lst h r =>
    cases ry with
    | int i =>
      obtain ⟨z, h1, h2⟩ := hf
      obtain ⟨y, h3, h4⟩ := atI_rep r h1
      exact .inl (.inl ⟨_, _, i, y, rfl, rfl, .inl (.inl (w.ih _ _ h)), h3, hq _ _ I H w.refl h4 h2⟩)
    | _ => exact hf.elim
  | tup h r =>
    cases ry with
    | int i =>
      obtain ⟨z, h1, h2⟩ := hf
      obtain ⟨y, h3, h4⟩ := atI_rep r h1
      exact .inl (.inr (.inl ⟨_, _, i, y, rfl, rfl, w.ih.sqT h, h3, hq _ _ I H w.refl h4 h2⟩))
    | _ => exact hf.elim
  | str z =>
    cases ry with
    | int i =>
      obtain ⟨hz, c, h1, h2⟩ := hf
      exact .inl (.inr (.inr ⟨z, i, c, rfl, rfl, hz, h1, hq _ _ I H w.refl (.str _) h2⟩))
    | _ => exact hf.elim
  | dct h r =>
    obtain ⟨q, x, h1, h2, h3⟩ := (show ∃ q x, keyD e = some q ∧ look _ q = some x ∧ P x by cases e <;> exact hf)
    obtain ⟨y', h4, h5⟩ := (look_rep r).1 x h2
    have e1 := key_rep ry h1
    subst e1
    refine .inr ⟨_, y', rfl, ?_, hq _ _ I H w.refl h5 h3⟩
    rw [← h4]
    exact DGet.k (w.ih _ _ h)
  | _ => exact (by cases e <;> exact hf.elim)
variable {a b : Expr} {wa wb : WE} {pos : Pos}
theorem de_ix {q : Bool} (g : Gx X E k q) (ha : DE X E a wa) (hb : DE X E b wb) (hs : PlainIx b := by intro _ _; rfl) : DE X E (.Subscript a b pos) (wOp ixW wa wb) := by
  obtain ⟨_, pa, sa⟩ := ha
  obtain ⟨_, pb, sb⟩ := hb
  exact ⟨_, pe_ix (ix_seq.or (ix_dct g.u1)) pa pb hs, SE.op opd_ix sa sb⟩
end

/-! ### a[i:j] -/
def cutD (xs : List D) (lo hi : Option Int) : List D := (xs.drop (HT.sIx xs.length 0 lo)).take (HT.sIx xs.length xs.length hi - HT.sIx xs.length 0 lo)
theorem cut_rep {K : PySem.W.Frag} {I : Hp} {vs : List V} {ds : List D} (r : RepL K I vs ds) (lo hi : Option Int) : RepL K I (cutV vs lo hi) (cutD ds lo hi) := by
  unfold cutV cutD
  rw [r.length]
  exact (r.drop _).take _
abbrev WO := Ct → Nat → List Sl → (Nat → Option Int → Prop) → Prop
def SO (K : PySem.W.Frag) (E : XK) (t : TO) (w : WO) : Prop := ∀ (Z : Res) (I0 H0 : Hp) (cx : Nat → Xn → Prop) (n : Nat) (δ : List Sl) (σ : L2.St) (I H : Hp) (P : Nat → Option Int → Prop) (Q : Option Int → Hp → Prop),
  XR K E Z I0 H0 cx → Ev K Z I0 H0 n δ σ I H → w ⟨Z, cx⟩ n δ P → (∀ o n' I' H', Stp Z I H n' I' H' → P n' o → Q o H') → t σ H Q
def DO (X : Cx) (E : XK) (e : Option Expr) (w : WO) : Prop := ∃ t, PO X e t ∧ SO X.K E t w
section
variable {X : Cx} {E : XK} {e : Expr} {lo hi : Option Expr} {w : WE} {wl wh : WO} {pos p2 : Pos}
def oNone : WO := fun _ n _ P => P n none
def asI : D → (Int → Prop) → Prop
  | .int i, P => P i
  | _, _ => False
def oSome (w : WE) : WO := fun c n δ P => w c n δ fun n1 d => asI d fun i => P n1 (some i)
theorem do_none : DO X E none oNone := ⟨_, po_none, fun Z I0 H0 cx n δ σ I H P Q hx he hw hq => hq none n I H he.wk.refl hw⟩
theorem asI_of {K : PySem.W.Frag} {I : Hp} {v : V} {d : D} {P : Int → Prop} (r : Rep K I v d) (h : asI d P) : ∃ i, v = .int i ∧ P i := by
  cases r with
  | int i => exact ⟨i, rfl, h⟩
  | _ => exact h.elim
theorem do_some (h : DE X E e w) : DO X E (some e) (oSome w) := by
  obtain ⟨_, p, s⟩ := h
  exact ⟨_, po_some p, fun Z I0 H0 cx n δ σ I H P Q hx he hw hq => s Z I0 H0 cx n δ σ I H _ _ hx he hw fun d v n1 I1 H1 s1 r1 h1 => by
    obtain ⟨i, e1, h2⟩ := asI_of r1 h1
    exact ⟨i, e1, hq (some i) n1 I1 H1 s1 h2⟩⟩
def slW : D → Option Int → Option Int → (D → Prop) → Prop
  | .lst xs, lo, hi, P => P (.lst (cutD xs lo hi))
  | .tup xs, lo, hi, P => P (.tup (cutD xs lo hi))
  | _, _, _, _ => False
def slF : D → Option Int → Option Int → (D → Prop) → Prop
  | .lst xs, lo, hi, P => P (.lst (cutD xs lo hi))
  | _, _, _, _ => False
def wSl (f : D → Option Int → Option Int → (D → Prop) → Prop) (w : WE) (wl wh : WO) : WE := fun c n δ P => w c n δ fun n1 d => wl c n1 δ fun n2 lo => wh c n2 δ fun n3 hi => f d lo hi (P n3)
theorem cutV_whole {xs : List V} {lo hi : Option Int} (h : HT.sIx xs.length 0 lo = 0 ∧ HT.sIx xs.length xs.length hi = xs.length) : cutV xs lo hi = xs := by
  unfold cutV
  rw [h.1, h.2]
  simp
theorem de_slice (h : DE X E e w) (hl : DO X E lo wl) (hh : DO X E hi wh) : DE X E (.Subscript e (.Slice lo hi none p2) pos) (wSl slW w wl wh) := by
  obtain ⟨_, p, s⟩ := h
  obtain ⟨_, pl, sl⟩ := hl
  obtain ⟨_, ph, sh⟩ := hh
  refine ⟨_, pe_slice (sl_list.or sl_tupA) p pl ph, fun Z I0 H0 cx n δ σ I H P Q hx he hw hq => s Z I0 H0 cx n δ σ I H _ _ hx he hw fun d v n1 I1 H1 s1 r1 h1 => sl Z I0 H0 cx n1 δ σ I1 H1 _ _ hx (he.step s1) h1 fun a n2 I2 H2 s2 h2 =>
    sh Z I0 H0 cx n2 δ σ I2 H2 _ _ hx ((he.step s1).step s2) h2 fun b n3 I3 H3 s3 h3 => ?_⟩
  have r3 := r1.mono (s2.ex.trans s3.ex)
  have s13 := (s1.trans s2).trans s3
  cases r3 with
  | lst g r => exact .inl ⟨_, _, rfl, .inl (.inl (s3.wk.ih _ _ g)), fun q hq2 => hq _ _ _ _ _ (s13.trans (s3.wk.laid hq2)) (mk_lst s3.wk hq2 (cut_rep r a b)) h3⟩
  | tup g r =>
    refine .inr ⟨_, _, rfl, s3.wk.ih.sqT g, fun hw2 => ?_, fun _ q hq2 => hq _ _ _ _ _ (s13.trans (s3.wk.laid hq2)) (mk_tup s3.wk hq2 (cut_rep r a b)) h3⟩
    refine hq _ _ n3 I3 H3 s13 (.tup g ?_) h3
    have := cut_rep r a b
    rwa [cutV_whole hw2] at this
  | _ => exact h3.elim
theorem df_slice (h : DE X E e w) (hl : DO X E lo wl) (hh : DO X E hi wh) : DF X E (.Subscript e (.Slice lo hi none p2) pos) (wSl slF w wl wh) := by
  obtain ⟨_, p, s⟩ := h
  obtain ⟨_, pl, sl⟩ := hl
  obtain ⟨_, ph, sh⟩ := hh
  refine ⟨_, pe_slice sl_list p pl ph, fun Z I0 H0 cx n δ σ I H P Q hx he hw hq => s Z I0 H0 cx n δ σ I H _ _ hx he hw fun d v n1 I1 H1 s1 r1 h1 => sl Z I0 H0 cx n1 δ σ I1 H1 _ _ hx (he.step s1) h1 fun a n2 I2 H2 s2 h2 =>
    sh Z I0 H0 cx n2 δ σ I2 H2 _ _ hx ((he.step s1).step s2) h2 fun b n3 I3 H3 s3 h3 => ?_⟩
  have r3 := r1.mono (s2.ex.trans s3.ex)
  have s13 := (s1.trans s2).trans s3
  cases r3 with
  | lst g r =>
    refine ⟨_, _, rfl, .inl (.inl (s3.wk.ih _ _ g)), fun q hq2 => hq (.lst _) q _ _ _ (s13.trans (s3.wk.young hq2)) ?_ (s3.wk.ih.free hq2) (s3.wk.nf hq2) ⟨_, upd_same, cut_rep r a b⟩ h3⟩
    cases z : H q with
    | none => rfl
    | some o => exact absurd hq2 (s13.live (by rw [z]; exact fun y => nomatch y))
  | _ => exact h3.elim
end

/-! ### built-in functions by values -/
abbrev WC := List D → (D → Prop) → Prop
def ClD (K : PySem.W.Frag) (r : List V → Hp → VK → Prop) (f : WC) : Prop := ∀ (Z : Res) (n : Nat) (I H : Hp) (xs : List V) (ds : List D) (P : D → Prop) (Q : VK), Wk Z n I H → RepL K I xs ds → f ds P →
  (∀ g v I' H', Stp Z I H n I' H' → Rep K I' v g → P g → Q v H') → r xs H Q
def ClF (K : PySem.W.Frag) (r : List V → Hp → VK → Prop) (f : WC) : Prop := ∀ (Z : Res) (n : Nat) (I H : Hp) (xs : List V) (ds : List D) (P : D → Prop) (Q : VK), Wk Z n I H → RepL K I xs ds → f ds P →
  (∀ g p I' H', Stp Z I H n I' H' → H p = none → I' p = none → ¬ Z.F p → OwnC K I' H' p g → P g → Q (.ref p) H') → r xs H Q
def wCB (f : WC) (wa : WA) : WE := fun c n δ P => wa c n δ fun n1 ds => f ds (P n1)
section
variable {X : Cx} {E : XK} {x : Str} {p pos : Pos} {e : Expr} {es : List Expr} {wa : WA} {id T : String} {r : List V → Hp → VK → Prop} {f : WC}
theorem SE.cb {K : PySem.W.Frag} {t : TA} (hc : ClD K r f) (ha : SA K E t wa) : SE K E (tCB r t) (wCB f wa) := fun Z I0 H0 cx n δ σ I H P Q hx he hw hq =>
  ha Z I0 H0 cx n δ σ I H _ _ hx he hw fun ds vs n1 I1 H1 s1 r1 h1 => hc Z n1 I1 H1 vs ds _ Q s1.wk r1 h1 fun g v I2 H2 s2 => hq g v n1 I2 H2 (s1.trans s2)
theorem SF.cb {K : PySem.W.Frag} {t : TA} (hc : ClF K r f) (ha : SA K E t wa) : SF K E (tCB r t) (wCB f wa) := fun Z I0 H0 cx n δ σ I H P Q hx he hw hq =>
  ha Z I0 H0 cx n δ σ I H _ _ hx he hw fun ds vs n1 I1 H1 s1 r1 h1 => hc Z n1 I1 H1 vs ds _ Q s1.wk r1 h1 fun g v I2 H2 s2 z1 => hq g v n1 I2 H2 (s1.trans s2) (by
    cases z : H v with
    | none => rfl
    | some o => exact absurd z1 (s1.live (by rw [z]; exact fun y => nomatch y)))
theorem de_callB (hc : CallR X (.builtin id) r) (hd : ClD X.K r f) (hm : X.mg x = none) (hv : bootBuiltins x = some (.builtin id)) (ha : DA X E (e :: es) wa) (hg : Gl X x := by rfl) (hn : x ≠ "__name__" := by decide) (hdb : (x == ("__debug__" : Str)) = false := by decide)
    (he : starEach (e :: es) X.env = (false, eval e X.env) :: starEach es X.env := by rfl) (hpl : (backTo pos (starEach es X.env)).any (·.1) = false := by rfl) : DE X E (.Call (.Name x p) (e :: es) [] pos) (wCB f wa) := let ⟨_, pa, sa⟩ := ha; ⟨_, pe_callB hc hg hm hv pa hn hdb he hpl, SE.cb hd sa⟩
theorem de_callTy (hc : CallR X (.type T) r) (hd : ClD X.K r f) (hm : X.mg x = none) (hv : bootBuiltins x = some (.type T)) (ha : DA X E (e :: es) wa) (hg : Gl X x := by rfl) (hn : x ≠ "__name__" := by decide) (hdb : (x == ("__debug__" : Str)) = false := by decide)
    (he : starEach (e :: es) X.env = (false, eval e X.env) :: starEach es X.env := by rfl) (hpl : (backTo pos (starEach es X.env)).any (·.1) = false := by rfl) : DE X E (.Call (.Name x p) (e :: es) [] pos) (wCB f wa) := let ⟨_, pa, sa⟩ := ha; ⟨_, pe_callTy hc hg hm hv pa hn hdb he hpl, SE.cb hd sa⟩
theorem df_callB (hc : CallR X (.builtin id) r) (hd : ClF X.K r f) (hm : X.mg x = none) (hv : bootBuiltins x = some (.builtin id)) (ha : DA X E (e :: es) wa) (hg : Gl X x := by rfl) (hn : x ≠ "__name__" := by decide) (hdb : (x == ("__debug__" : Str)) = false := by decide)
    (he : starEach (e :: es) X.env = (false, eval e X.env) :: starEach es X.env := by rfl) (hpl : (backTo pos (starEach es X.env)).any (·.1) = false := by rfl) : DF X E (.Call (.Name x p) (e :: es) [] pos) (wCB f wa) := let ⟨_, pa, sa⟩ := ha; ⟨_, pe_callB hc hg hm hv pa hn hdb he hpl, SF.cb hd sa⟩
theorem df_callTy (hc : CallR X (.type T) r) (hd : ClF X.K r f) (hm : X.mg x = none) (hv : bootBuiltins x = some (.type T)) (ha : DA X E (e :: es) wa) (hg : Gl X x := by rfl) (hn : x ≠ "__name__" := by decide) (hdb : (x == ("__debug__" : Str)) = false := by decide)
    (he : starEach (e :: es) X.env = (false, eval e X.env) :: starEach es X.env := by rfl) (hpl : (backTo pos (starEach es X.env)).any (·.1) = false := by rfl) : DF X E (.Call (.Name x p) (e :: es) [] pos) (wCB f wa) := let ⟨_, pa, sa⟩ := ha; ⟨_, pe_callTy hc hg hm hv pa hn hdb he hpl, SF.cb hd sa⟩
end
/-! len, int, abs, min, max, list, tuple -/
def lenW : WC
  | [.lst xs], P => P (.int xs.length)
  | [.tup xs], P => P (.int xs.length)
  | [.scr xs], P => P (.int xs.length)
  | [.dct xs], P => P (.int xs.length)
  | [.str s], P => s.length ≤ sizeLine ∧ P (.int s.length)
  | _, _ => False
abbrev rLens (K : PySem.W.Frag) : List V → Hp → VK → Prop := fun xs H Q => (∃ x n, xs = [x] ∧ LenV K x H n ∧ Q (.int n) H) ∨ ∃ a kvs, xs = [V.ref a] ∧ H a = some (.dK kvs) ∧ Q (.int kvs.length) H
section
variable {K : PySem.W.Frag}
theorem cld_len : ClD K (rLens K) lenW := fun Z n I H xs ds P Q w r hf hq => by
  cases r with
  | nil => exact hf.elim
  | cons r rr => cases rr with
    | cons _ _ => exact (by cases r <;> exact hf.elim)
    | nil => cases r with
      | lst g r => exact .inl ⟨_, _, rfl, .inl ⟨_, .inl (.inl (w.ih _ _ g)), rfl⟩, by rw [r.length]; exact hq _ _ I H w.refl (.int _) hf⟩
      | tup g r => exact .inl ⟨_, _, rfl, .inr ⟨_, w.ih.sqT g, rfl⟩, by rw [r.length]; exact hq _ _ I H w.refl (.int _) hf⟩
      | scr g => exact .inl ⟨_, _, rfl, .inl ⟨_, w.ih.sqL g, rfl⟩, by rw [List.length_map]; exact hq _ _ I H w.refl (.int _) hf⟩
      | str z => exact .inl ⟨_, _, rfl, ⟨hf.1, rfl⟩, hq _ _ I H w.refl (.int _) hf.2⟩
      | dct g r => exact .inr ⟨_, _, rfl, w.ih _ _ g, by rw [r.length]; exact hq _ _ I H w.refl (.int _) hf⟩
      | _ => exact hf.elim
def intW : WC
  | [.int i], P => P (.int i)
  | [.bl b], P => P (.int (if b then 1 else 0))
  | _, _ => False
theorem cld_int : ClD K (fun xs H Q => (∃ i, xs = [.int i] ∧ Q (.int i) H) ∨ ∃ k, xs = [.bl k] ∧ Q (.int (if k then 1 else 0)) H) intW := fun Z n I H xs ds P Q w r hf hq => by
  cases r with
  | nil => exact hf.elim
  | cons r rr => cases rr with
    | cons _ _ => exact (by cases r <;> exact hf.elim)
    | nil => cases r with
      | int i => exact .inl ⟨i, rfl, hq _ _ I H w.refl (.int _) hf⟩
      | bl b => exact .inr ⟨b, rfl, hq _ _ I H w.refl (.int _) hf⟩
      | _ => exact hf.elim
def absW : WC
  | [.int i], P => P (.int (if i < 0 then -i else i))
  | _, _ => False
theorem cld_abs : ClD K (fun xs H Q => ∃ i, xs = [.int i] ∧ Q (.int (if i < 0 then -i else i)) H) absW := fun Z n I H xs ds P Q w r hf hq => by
  cases r with
  | nil => exact hf.elim
  | cons r rr => cases rr with
    | cons _ _ => exact (by cases r <;> exact hf.elim)
    | nil => cases r with
      | int i => exact ⟨i, rfl, hq _ _ I H w.refl (.int _) hf⟩
      | _ => exact hf.elim
def ii2 (f : Int → Int → Int) : WC
  | [.int i, .int j], P => P (.int (f i j))
  | _, _ => False
theorem cld_ii {f : Int → Int → Int} : ClD K (fun xs H Q => ∃ i j, xs = [.int i, .int j] ∧ Q (.int (f i j)) H) (ii2 f) := fun Z n I H xs ds P Q w r hf hq => by
  cases r with
  | nil => exact hf.elim
  | cons r rr => cases rr with
    | nil => exact (by cases r <;> exact hf.elim)
    | cons r' rr => cases rr with
      | cons _ _ => exact (by cases r <;> first | exact hf.elim | (cases r' <;> exact hf.elim))
      | nil => cases r with
        | int i => cases r' with
          | int j => exact ⟨i, j, rfl, hq _ _ I H w.refl (.int _) hf⟩
          | _ => exact hf.elim
        | _ => exact hf.elim
/-- list(x) -/
def listW : WC
  | [.lst xs], P => P (.lst xs)
  | [.tup xs], P => P (.lst xs)
  | [.scr ns], P => P (.lst (ns.map .int))
  | [.dct kvs], P => P (.lst (kvs.map fun kv => match kv.1 with | .inl i => .int i | .inr s => .str s))
  | _, _ => False
abbrev rLists (K : PySem.W.Frag) : List V → Hp → VK → Prop := fun xs H Q => (∃ p ys, xs = [.ref p] ∧ (SqL K H p ys ∨ SqT K H p ys) ∧ ∀ l, H l = none → Q (.ref l) (upd H l (.lst ys))) ∨ ∃ (a : Addr) (kvs : List (Key × V)), xs = [.ref a] ∧ Rd H a (.dK kvs) ∧ ∀ p, H p = none → Q (.ref p) (upd H p (.lst (kvs.map fun kv => kV kv.1)))
theorem keys_rep {I : Hp} : ∀ {vs : List (Key × V)} {ds : List (Key × D)}, RepM K I vs ds → RepL K I (vs.map fun kv => kV kv.1) (ds.map fun kv => match kv.1 with | .inl i => D.int i | .inr s => D.str s)
  | _, _, .nil => .nil
  | _, _, .cons (k := k) h r => .cons (by cases k with | inl i => exact .int i | inr s => exact .str s) (keys_rep r)
theorem clf_list : ClF K (rLists K) listW := fun Z n I H xs ds P Q w r hf hq => by
  cases r with
  | nil => exact hf.elim
  | cons r rr => cases rr with
    | cons _ _ => exact (by cases r <;> exact hf.elim)
    | nil => cases r with
      | lst g r => exact .inl ⟨_, _, rfl, .inl (.inl (.inl (w.ih _ _ g))), fun l hl => hq (.lst _) l _ _ (w.young hl) hl (w.ih.free hl) (w.nf hl) ⟨_, upd_same, r⟩ hf⟩
      | tup g r => exact .inl ⟨_, _, rfl, .inr (w.ih.sqT g), fun l hl => hq (.lst _) l _ _ (w.young hl) hl (w.ih.free hl) (w.nf hl) ⟨_, upd_same, r⟩ hf⟩
      | scr g => exact .inl ⟨_, _, rfl, .inl (w.ih.sqL g), fun l hl => hq (.lst _) l _ _ (w.young hl) hl (w.ih.free hl) (w.nf hl) ⟨_, upd_same, ints_rep _⟩ hf⟩
      | dct g r => exact .inr ⟨_, _, rfl, .inl (w.ih _ _ g), fun l hl => hq (.lst _) l _ _ (w.young hl) hl (w.ih.free hl) (w.nf hl) ⟨_, upd_same, keys_rep r⟩ hf⟩
      | _ => exact hf.elim
/-- tuple(x) -/
def tupleW : WC
  | [.lst xs], P => P (.tup xs)
  | [.tup xs], P => P (.tup xs)
  | _, _ => False
theorem cld_tuple : ClD K (fun xs H Q => ∃ p ys, xs = [.ref p] ∧ ((SqL K H p ys ∧ ∀ l, H l = none → Q (.ref l) (upd H l (.tup ys))) ∨ (SqT K H p ys ∧ Q (.ref p) H))) tupleW := fun Z n I H xs ds P Q w r hf hq => by
  cases r with
  | nil => exact hf.elim
  | cons r rr => cases rr with
    | cons _ _ => exact (by cases r <;> exact hf.elim)
    | nil => cases r with
      | lst g r => exact ⟨_, _, rfl, .inl ⟨.inl (.inl (w.ih _ _ g)), fun l hl => hq _ _ _ _ (w.laid hl) (mk_tup w hl r) hf⟩⟩
      | tup g r => exact ⟨_, _, rfl, .inr ⟨w.ih.sqT g, hq _ _ I H w.refl (.tup g r) hf⟩⟩
      | _ => exact hf.elim
/-- all(x), any(x) of a list of truths -/
def blD : List D → Option (List Bool)
  | [] => some []
  | .bl b :: ds => (blD ds).map (b :: ·)
  | _ => none
theorem bl_rep {I : Hp} : ∀ {vs : List V} {ds : List D} {bs : List Bool}, RepL K I vs ds → blD ds = some bs → vs = bs.map V.bl
  | _, _, _, .nil, h => by cases h; rfl
  | _, _, _, .cons h r, e => by
    cases h with
    | bl b =>
      obtain ⟨q, e1, e2⟩ := Option.map_eq_some_iff.mp (show (blD _).map (b :: ·) = some _ from e)
      subst e2
      rw [bl_rep r e1]
      rfl
    | _ => cases e
def allW : WC
  | [.lst xs], P => ∃ bs, blD xs = some bs ∧ P (.bl (bs.all id))
  | _, _ => False
def anyW : WC
  | [.lst xs], P => ∃ bs, blD xs = some bs ∧ P (.bl (bs.any id))
  | _, _ => False
theorem cld_all : ClD K (rAll K) allW := fun Z n I H xs ds P Q w r hf hq => by
  cases r with
  | nil => exact hf.elim
  | cons r rr => cases rr with
    | cons _ _ => exact (by cases r <;> exact hf.elim)
    | nil => cases r with
      | lst g r =>
        obtain ⟨bs, h1, h2⟩ := hf
        have e := bl_rep r h1
        subst e
        exact ⟨_, bs, rfl, .inl (.inl (w.ih _ _ g)), hq _ _ I H w.refl (.bl _) h2⟩
      | _ => exact hf.elim
theorem cld_any : ClD K (rAny K) anyW := fun Z n I H xs ds P Q w r hf hq => by
  cases r with
  | nil => exact hf.elim
  | cons r rr => cases rr with
    | cons _ _ => exact (by cases r <;> exact hf.elim)
    | nil => cases r with
      | lst g r =>
        obtain ⟨bs, h1, h2⟩ := hf
        have e := bl_rep r h1
        subst e
        exact ⟨_, bs, rfl, .inl (.inl (w.ih _ _ g)), hq _ _ I H w.refl (.bl _) h2⟩
      | _ => exact hf.elim
end
end Dt

/-! DtI: names of the module, arithmetic, comparisons, isinstance, sorted, texts. -/
namespace Dt
open PySem L2

section
variable {X : Cx} {E : XK} {x : Str} {pos : Pos}
theorem de_gint {i : Int} (h : ∃ t, X.mg x = some (.int i t)) (hg : Gl X x := by rfl) (hd : (x == ("__debug__" : Str)) = false := by decide) : DE X E (.Name x pos) (wC (.int i)) := let ⟨t, h⟩ := h; de_glob (v := .int i) hg h ⟨t, rfl⟩ (fun _ => .int i) hd
theorem de_gstr {i : Str} (h : ∃ t, X.mg x = some (.str i t)) (hg : Gl X x := by rfl) (hd : (x == ("__debug__" : Str)) = false := by decide) : DE X E (.Name x pos) (wC (.str i)) := let ⟨t, h⟩ := h; de_glob (v := .str i) hg h ⟨t, rfl⟩ (fun _ => .str i) hd
/-- a constant by what it is -/
theorem de_gk {a : Addr} {d : D} (h : X.mg x = some (.ref a)) (r : ∀ I, Rep X.K I (.ref a) d) (hg : Gl X x := by rfl) (hd : (x == ("__debug__" : Str)) = false := by decide) : DE X E (.Name x pos) (wC d) := de_glob (v := .ref a) hg h rfl r hd
theorem de_gcls {a : Addr} (h : X.mg x = some (.ref a)) (hg : Gl X x := by rfl) (hd : (x == ("__debug__" : Str)) = false := by decide) : DE X E (.Name x pos) (wC (.obj (.ref a))) := de_glob (v := .ref a) hg h rfl (fun _ => .obj _) hd
theorem de_gty {n : String} (h : X.mg x = none) (hv : bootBuiltins x = some (.type n)) (hg : Gl X x := by rfl) (hn : x ≠ "__name__" := by decide) (hd : (x == ("__debug__" : Str)) = false := by decide) : DE X E (.Name x pos) (wC (.obj (.ty n))) := ⟨_, pe_bltn (v := .ty n) hg h hv rfl hn hd, SE.c fun _ => .obj _⟩
end

/-! ### arithmetic -/
section
variable {X : Cx} {E : XK} {a b c : Expr} {pos : Pos} {wa wb wc : WE}
def mulW : W2 := iiW (fun i j => CMulW i j) (· * ·)
def fdivW : W2 := iiW CDivW (· / ·)
def modW : W2 := iiW (fun _ j => 0 < j) (· % ·)
def powW : W2 := iiW CPow fun i j => i ^ j.toNat
theorem de_mul (ha : DE X E a wa) (hb : DE X E b wb) : DE X E (.BinOp a .Mult b pos) (wOp mulW wa wb) := de_op op_mulW opd_ii ha hb
theorem de_fdiv (ha : DE X E a wa) (hb : DE X E b wb) : DE X E (.BinOp a .FloorDiv b pos) (wOp fdivW wa wb) := de_op op_fdivW opd_ii ha hb
theorem de_mod (ha : DE X E a wa) (hb : DE X E b wb) : DE X E (.BinOp a .Mod b pos) (wOp modW wa wb) := de_op op_mod opd_ii ha hb
theorem de_pow (ha : DE X E a wa) (hb : DE X E b wb) : DE X E (.BinOp a .Pow b pos) (wOp powW wa wb) := de_op op_pow opd_ii ha hb
def wNeg (w : WE) : WE := fun c n δ P => w c n δ fun n1 d => asI d fun i => P n1 (.int (-i))
theorem de_neg (ha : DE X E a wa) : DE X E (.UnaryOp .USub a pos) (wNeg wa) := by
  obtain ⟨_, pa, sa⟩ := ha
  exact ⟨_, pe_un un_neg pa, fun Z I0 H0 cx n δ σ I H P Q hx he hw hq => sa Z I0 H0 cx n δ σ I H _ _ hx he hw fun d v n1 I1 H1 s1 r1 h1 => by
    obtain ⟨i, e1, h2⟩ := asI_of r1 h1
    exact ⟨i, e1, hq _ _ n1 I1 H1 s1 (.int _) h2⟩⟩

/-! ### comparisons -/
def ltW : W2 := ciW (fun i j => decide (i < j)) fun i j => decide (i.cps.toList < j.cps.toList)
def leW : W2 := ciW (fun i j => decide (i ≤ j)) fun i j => !decide (j.cps.toList < i.cps.toList)
def gtW : W2 := ciW (fun i j => decide (j < i)) fun i j => decide (j.cps.toList < i.cps.toList)
def geW : W2 := ciW (fun i j => decide (j ≤ i)) fun i j => !decide (i.cps.toList < j.cps.toList)
def isN : D → Bool
  | .non => true
  | .obj .non => true
  | _ => false
def isNW : W2
  | d, .non, P => P (.bl (isN d))
  | _, _, _ => False
def isNotNW : W2
  | d, .non, P => P (.bl (!isN d))
  | _, _, _ => False
theorem non_of {K : PySem.W.Frag} {I : Hp} {v : V} {d : D} (r : Rep K I v d) : decide (v = .non) = isN d := by
  cases r with
  | obj v => cases v <;> rfl
  | _ => rfl
theorem opd_isN {K : PySem.W.Frag} : OpD K (fun x y H Q => y = .non ∧ Q (.bl (decide (x = .non))) H) isNW := fun Z n I H x y d e P Q w rx ry hf hq => by
  cases ry with
  | non =>
    refine ⟨rfl, ?_⟩
    rw [non_of rx]
    exact hq _ _ I H w.refl (.bl _) (by cases d <;> exact hf)
  | _ => exact (by cases d <;> exact hf.elim)
theorem opd_notN {K : PySem.W.Frag} : OpD K (fun x y H Q => y = .non ∧ Q (.bl (!decide (x = .non))) H) isNotNW := fun Z n I H x y d e P Q w rx ry hf hq => by
  cases ry with
  | non =>
    refine ⟨rfl, ?_⟩
    rw [non_of rx]
    exact hq _ _ I H w.refl (.bl _) (by cases d <;> exact hf)
  | _ => exact (by cases d <;> exact hf.elim)
/-! in, not in -/
def anyEq (x : D) (ys : List D) : Bool := ys.any fun y => eqD y x
def inF (x y : D) (P : Bool → Prop) : Prop := match y with
  | .lst ys => (∃ n, n ≤ 63 ∧ dep n x = true ∧ depL n ys = true) ∧ P (anyEq x ys)
  | .tup ys => (∃ n, n ≤ 63 ∧ dep n x = true ∧ depL n ys = true) ∧ P (anyEq x ys)
  | .dct kvs => ∃ q, keyD x = some q ∧ P (look kvs q).isSome
  | .str z => ∃ c, x = .str ⟨#[c]⟩ ∧ P (decide (c ∈ z.cps.toList))
  | _ => False
def inW : W2 := fun x y P => inF x y fun b => P (.bl b)
def notInW : W2 := fun x y P => inF x y fun b => P (.bl (!b))
theorem any_py (x : D) (ys : List D) : ((D.pyL ys).any fun z => PyData.eqv z x.py) = anyEq x ys := by
  rw [pyL_eq, List.any_map]
  rfl
def rInA (K : PySem.W.Frag) (f : Bool → Bool) : R2 := fun x y H Q => (∃ d ds, Dp K H x d ∧ (Dp K H y (.list ds) ∨ Dp K H y (.tuple ds)) ∧ SeqAt.shaped d = true ∧ SeqAt.shaped (.list ds) = true ∧ Q (.bl (f (ds.any fun z => PyData.eqv z d))) H) ∨
  ((∃ a o, y = .ref a ∧ DGet H a x o ∧ Q (.bl (f o.isSome)) H) ∨ ∃ (c : Nat) (z : Str), x = .str ⟨#[c]⟩ ∧ y = .str z ∧ Q (.bl (f (decide (c ∈ z.cps.toList)))) H)
theorem shaped_tl {ds : List PyData} (h : SeqAt.shaped (.list ds) = true) : SeqAt.shaped (.tuple ds) = true := by
  unfold SeqAt.shaped at h ⊢
  simpa [PyData.canLay0, PyData.depth] using h
theorem op_inA {k : Nat} {q : Bool} (g : Gx X E k q) : OpR X (compareOp .In) (rInA X.K id) := by
  intro pins s σ H x y v u Q I rx ry h
  rcases h with ⟨d, ds, hd, he, sd, se, q⟩ | ⟨a, o, rfl, gd, q⟩ | h
  · obtain ⟨as, r1⟩ := Dp.reads I d x v hd rx
    rcases he with he | he
    · obtain ⟨bs, r2⟩ := Dp.reads I (.list ds) y u he ry
      exact SeqAt.in_list_reads r2 r1 (SeqAt.canLay_of_shaped se) (SeqAt.canLay_of_shaped sd) (PyProof.Rows.room_in_shaped sd g.u65) ⟨.bl _, H, I, rfl, q⟩
    · obtain ⟨bs, r2⟩ := Dp.reads I (.tuple ds) y u he ry
      exact SeqAt.in_tuple_reads r2 r1 (SeqAt.canLay_of_shaped (shaped_tl se)) (SeqAt.canLay_of_shaped sd) (PyProof.Rows.room_in_shaped sd g.u65) ⟨.bl _, H, I, rfl, q⟩
  · obtain rfl : u = Value.ref a := ry
    exact d_in g.u1 I gd rx fun s3 I3 => ⟨.bl o.isSome, H, I3, rfl, q⟩
  · exact op_in_sign pins s σ H x y v u Q I rx ry h
theorem op_notInA {k : Nat} {q : Bool} (g : Gx X E k q) : OpR X (compareOp .NotIn) (rInA X.K not) := by
  intro pins s σ H x y v u Q I rx ry h
  rcases h with ⟨d, ds, hd, he, sd, se, q⟩ | ⟨a, o, rfl, gd, q⟩ | h
  · obtain ⟨as, r1⟩ := Dp.reads I d x v hd rx
    rcases he with he | he
    · obtain ⟨bs, r2⟩ := Dp.reads I (.list ds) y u he ry
      exact SeqAt.notIn_list_reads r2 r1 (SeqAt.canLay_of_shaped se) (SeqAt.canLay_of_shaped sd) (PyProof.Rows.room_in_shaped sd g.u65) ⟨.bl _, H, I, rfl, q⟩
    · obtain ⟨bs, r2⟩ := Dp.reads I (.tuple ds) y u he ry
      exact SeqAt.notIn_tuple_reads r2 r1 (SeqAt.canLay_of_shaped (shaped_tl se)) (SeqAt.canLay_of_shaped sd) (PyProof.Rows.room_in_shaped sd g.u65) ⟨.bl _, H, I, rfl, q⟩
  · obtain rfl : u = Value.ref a := ry
    exact d_notIn g.u1 I gd rx fun s3 I3 => ⟨.bl (!o.isSome), H, I3, rfl, q⟩
  · exact op_notIn_sign pins s σ H x y v u Q I rx ry h
theorem opd_inA {K : PySem.W.Frag} {f : Bool → Bool} : OpD K (rInA K f) (fun x y P => inF x y fun b => P (.bl (f b))) := fun Z n I H x y d e P Q w rx ry hf hq => by
  cases ry with
  | @lst a' vs' ds' g r =>
    obtain ⟨⟨m, hm, h1, h2⟩, hP⟩ := hf
    have h3 : dep (m + 1) (.lst ds') = true := by simpa [dep] using h2
    have h4 := Rep.dp w.ih (.lst g r) h3
    have h5 := dep_shaped h3 (by omega)
    simp only [D.py] at h4 h5
    exact .inl ⟨_, _, rx.dp w.ih h1, .inl h4, dep_shaped h1 (by omega), h5, by rw [any_py]; exact hq _ _ I H w.refl (.bl _) hP⟩
  | @tup a' vs' ds' g r =>
    obtain ⟨⟨m, hm, h1, h2⟩, hP⟩ := hf
    have h3 : dep (m + 1) (.tup ds') = true := by simpa [dep] using h2
    have h3' : dep (m + 1) (.lst ds') = true := by simpa [dep] using h2
    have h4 := Rep.dp w.ih (.tup g r) h3
    have h5 := dep_shaped h3' (by omega)
    simp only [D.py] at h4 h5
    exact .inl ⟨_, _, rx.dp w.ih h1, .inr h4, dep_shaped h1 (by omega), h5, by rw [any_py]; exact hq _ _ I H w.refl (.bl _) hP⟩
  | @dct a' vs' ds' g r =>
    obtain ⟨q, h1, h2⟩ := hf
    have e1 := key_rep rx h1
    subst e1
    refine .inr (.inl ⟨_, _, rfl, DGet.k (w.ih _ _ g), ?_⟩)
    have e2 : (valV vs' q).isSome = (look ds' q).isSome := by
      cases z : look ds' q with
      | none => rw [(look_rep r).2 z]; rfl
      | some y =>
        obtain ⟨u, h3, _⟩ := (look_rep r).1 y z
        rw [h3]; rfl
    rw [e2]
    exact hq _ _ I H w.refl (.bl _) h2
  | str z =>
    obtain ⟨c, rfl, h2⟩ := hf
    cases rx
    exact .inr (.inr ⟨c, z, rfl, rfl, hq _ _ I H w.refl (.bl _) h2⟩)
  | _ => exact hf.elim
variable {k : Nat} {q : Bool}
theorem de_eq (g : Gx X E k q) (ha : DE X E a wa) (hb : DE X E b wb) : DE X E (.Compare a [.Eq] [b] pos) (wOp eqW wa wb) := de_cmp ((op_eqD g.u64).or op_eq) opd_eq ha hb (nomark _)
theorem de_ne (g : Gx X E k q) (ha : DE X E a wa) (hb : DE X E b wb) : DE X E (.Compare a [.NotEq] [b] pos) (wOp neW wa wb) := de_cmp ((op_neD g.u64).or op_ne) opd_ne ha hb (nomark _)
theorem de_lt (g : Gx X E k q) (ha : DE X E a wa) (hb : DE X E b wb) : DE X E (.Compare a [.Lt] [b] pos) (wOp ltW wa wb) := de_cmp (op_lt.or op_lt_str) opd_ci ha hb (nomark _)
theorem de_le (g : Gx X E k q) (ha : DE X E a wa) (hb : DE X E b wb) : DE X E (.Compare a [.LtE] [b] pos) (wOp leW wa wb) := de_cmp (op_le.or op_le_str) opd_ci ha hb (nomark _)
theorem de_gt (g : Gx X E k q) (ha : DE X E a wa) (hb : DE X E b wb) : DE X E (.Compare a [.Gt] [b] pos) (wOp gtW wa wb) := de_cmp (op_gt.or op_gt_str) opd_ci ha hb (nomark _)
theorem de_ge (g : Gx X E k q) (ha : DE X E a wa) (hb : DE X E b wb) : DE X E (.Compare a [.GtE] [b] pos) (wOp geW wa wb) := de_cmp (op_ge.or op_ge_str) opd_ci ha hb (nomark _)
theorem de_is (g : Gx X E k q) (ha : DE X E a wa) (hb : DE X E b wb) : DE X E (.Compare a [.Is] [b] pos) (wOp isNW wa wb) := de_cmp op_isN opd_isN ha hb (nomark _)
theorem de_isnot (g : Gx X E k q) (ha : DE X E a wa) (hb : DE X E b wb) : DE X E (.Compare a [.IsNot] [b] pos) (wOp isNotNW wa wb) := de_cmp op_notN opd_notN ha hb (nomark _)
theorem de_in (g : Gx X E k q) (ha : DE X E a wa) (hb : DE X E b wb) (hm : behindInMarks .In b = false := by with_unfolding_all rfl) : DE X E (.Compare a [.In] [b] pos) (wOp inW wa wb) := de_cmp (op_inA g) (opd_inA (f := id)) ha hb hm
theorem de_notin (g : Gx X E k q) (ha : DE X E a wa) (hb : DE X E b wb) (hm : behindInMarks .NotIn b = false := by with_unfolding_all rfl) : DE X E (.Compare a [.NotIn] [b] pos) (wOp notInW wa wb) := de_cmp (op_notInA g) (opd_inA (f := not)) ha hb hm
theorem dt_eq (g : Gx X E k q) (ha : DE X E a wa) (hb : DE X E b wb) : DT X E (.Compare a [.Eq] [b] pos) (wB (wOp eqW wa wb)) := dt_cmp ((op_eqD g.u64).or op_eq) opd_eq ha hb (nomark _)
theorem dt_ne (g : Gx X E k q) (ha : DE X E a wa) (hb : DE X E b wb) : DT X E (.Compare a [.NotEq] [b] pos) (wB (wOp neW wa wb)) := dt_cmp ((op_neD g.u64).or op_ne) opd_ne ha hb (nomark _)
theorem dt_lt (g : Gx X E k q) (ha : DE X E a wa) (hb : DE X E b wb) : DT X E (.Compare a [.Lt] [b] pos) (wB (wOp ltW wa wb)) := dt_cmp (op_lt.or op_lt_str) opd_ci ha hb (nomark _)
theorem dt_le (g : Gx X E k q) (ha : DE X E a wa) (hb : DE X E b wb) : DT X E (.Compare a [.LtE] [b] pos) (wB (wOp leW wa wb)) := dt_cmp (op_le.or op_le_str) opd_ci ha hb (nomark _)
theorem dt_gt (g : Gx X E k q) (ha : DE X E a wa) (hb : DE X E b wb) : DT X E (.Compare a [.Gt] [b] pos) (wB (wOp gtW wa wb)) := dt_cmp (op_gt.or op_gt_str) opd_ci ha hb (nomark _)
theorem dt_ge (g : Gx X E k q) (ha : DE X E a wa) (hb : DE X E b wb) : DT X E (.Compare a [.GtE] [b] pos) (wB (wOp geW wa wb)) := dt_cmp (op_ge.or op_ge_str) opd_ci ha hb (nomark _)
theorem dt_is (g : Gx X E k q) (ha : DE X E a wa) (hb : DE X E b wb) : DT X E (.Compare a [.Is] [b] pos) (wB (wOp isNW wa wb)) := dt_cmp op_isN opd_isN ha hb (nomark _)
theorem dt_isnot (g : Gx X E k q) (ha : DE X E a wa) (hb : DE X E b wb) : DT X E (.Compare a [.IsNot] [b] pos) (wB (wOp isNotNW wa wb)) := dt_cmp op_notN opd_notN ha hb (nomark _)
theorem dt_in (g : Gx X E k q) (ha : DE X E a wa) (hb : DE X E b wb) (hm : behindInMarks .In b = false := by with_unfolding_all rfl) : DT X E (.Compare a [.In] [b] pos) (wB (wOp inW wa wb)) := dt_cmp (op_inA g) (opd_inA (f := id)) ha hb hm
theorem dt_notin (g : Gx X E k q) (ha : DE X E a wa) (hb : DE X E b wb) (hm : behindInMarks .NotIn b = false := by with_unfolding_all rfl) : DT X E (.Compare a [.NotIn] [b] pos) (wB (wOp notInW wa wb)) := dt_cmp (op_notInA g) (opd_inA (f := not)) ha hb hm
/-! chains of ints: a <= b <= c .. -/
def wCh (f f' : W2) (wa wb wc : WE) : WE := fun c n δ P => wa c n δ fun n1 d => wb c n1 δ fun n2 e => f d e fun z => asB z fun t => if t = true then wc c n2 δ fun n3 h => f' e h (P n3) else P n2 (.bl false)
theorem SE.chain {K : PySem.W.Frag} {r r' : R2} {f f' : W2} {ta tb tc : TE} (hr : OpD K r f) (hr' : OpD K r' f') (ha : SE K E ta wa) (hb : SE K E tb wb) (hc : SE K E tc wc) : SE K E (tChain r r' ta tb tc) (wCh f f' wa wb wc) := fun Z I0 H0 cx n δ σ I H P Q hx he hw hq =>
  ha Z I0 H0 cx n δ σ I H _ _ hx he hw fun d x n1 I1 H1 s1 r1 h1 => hb Z I0 H0 cx n1 δ σ I1 H1 _ _ hx (he.step s1) h1 fun e y n2 I2 H2 s2 r2 h2 =>
    hr Z n2 I2 H2 x y d e _ _ s2.wk (r1.mono s2.ex) r2 h2 fun z v I3 H3 s3 r3 h3 => by
      obtain ⟨t, e1, h4⟩ := bl_of r3 h3
      refine ⟨t, e1, ?_⟩
      have s13 := (s1.trans s2).trans s3
      cases t with
      | true => exact hc Z I0 H0 cx n2 δ σ I3 H3 _ _ hx (he.step s13) h4 fun h u n4 I4 H4 s4 r4 h5 => hr' Z n4 I4 H4 y u e h _ Q s4.wk (r2.mono (s3.ex.trans s4.ex)) r4 h5 fun g w I5 H5 s5 => hq g w n4 I5 H5 ((s13.trans s4).trans s5)
      | false => exact hq _ _ n2 I3 H3 s13 (.bl _) h4
theorem dt_chain {op op' : CmpOp} {r r' : R2} {f f' : W2} (ho : OpR X (compareOp op) r) (ho' : OpR X (compareOp op') r') (hr : OpD X.K r f) (hr' : OpD X.K r' f') (ha : DE X E a wa) (hb : DE X E b wb) (hc : DE X E c wc) (hm : lastMarks [op, op'] [b, c] = false := by with_unfolding_all rfl) : DT X E (.Compare a [op, op'] [b, c] pos) (wB (wCh f f' wa wb wc)) := by
  obtain ⟨_, pa, sa⟩ := ha
  obtain ⟨_, pb, sb⟩ := hb
  obtain ⟨_, pc, sc⟩ := hc
  exact ⟨_, pt_chain ho ho' pa pb pc hm, fun Z I0 H0 cx n δ σ I H P Q hx he hw hq => SE.chain hr hr' sa sb sc Z I0 H0 cx n δ σ I H _ _ hx he hw fun d v n1 I1 H1 s1 r1 h1 => by
    obtain ⟨t, e1, h2⟩ := bl_of r1 h1
    exact ⟨t, e1, hq t n1 I1 H1 s1 h2⟩⟩
theorem de_chain {op op' : CmpOp} {r r' : R2} {f f' : W2} (ho : OpR X (compareOp op) r) (ho' : OpR X (compareOp op') r') (hr : OpD X.K r f) (hr' : OpD X.K r' f') (ha : DE X E a wa) (hb : DE X E b wb) (hc : DE X E c wc) (hm : lastMarks [op, op'] [b, c] = false := by with_unfolding_all rfl) : DE X E (.Compare a [op, op'] [b, c] pos) (wCh f f' wa wb wc) := by
  obtain ⟨_, pa, sa⟩ := ha
  obtain ⟨_, pb, sb⟩ := hb
  obtain ⟨_, pc, sc⟩ := hc
  exact ⟨_, pe_chain ho ho' pa pb pc hm, SE.chain hr hr' sa sb sc⟩
def iltW : W2 := iiB fun i j => decide (i < j)
where iiB (f : Int → Int → Bool) : W2
  | .int i, .int j, P => P (.bl (f i j))
  | _, _, _ => False
def ileW : W2 := iltW.iiB fun i j => decide (i ≤ j)
theorem opd_iiB {K : PySem.W.Frag} {f : Int → Int → Bool} : OpD K (rI0 fun i j => .bl (f i j)) (iltW.iiB f) := fun Z n I H x y d e P Q w rx ry hf hq => by
  cases rx with
  | int i => cases ry with
    | int j => exact ⟨i, j, rfl, rfl, hq _ _ I H w.refl (.bl _) hf⟩
    | _ => exact hf.elim
  | _ => exact hf.elim
theorem dt_lele (ha : DE X E a wa) (hb : DE X E b wb) (hc : DE X E c wc) (hm : lastMarks [.LtE, .LtE] [b, c] = false := by with_unfolding_all rfl) : DT X E (.Compare a [.LtE, .LtE] [b, c] pos) (wB (wCh ileW ileW wa wb wc)) := dt_chain op_le op_le opd_iiB opd_iiB ha hb hc hm
theorem dt_lelt (ha : DE X E a wa) (hb : DE X E b wb) (hc : DE X E c wc) (hm : lastMarks [.LtE, .Lt] [b, c] = false := by with_unfolding_all rfl) : DT X E (.Compare a [.LtE, .Lt] [b, c] pos) (wB (wCh ileW iltW wa wb wc)) := dt_chain op_le op_lt opd_iiB opd_iiB ha hb hc hm
theorem de_lele (ha : DE X E a wa) (hb : DE X E b wb) (hc : DE X E c wc) (hm : lastMarks [.LtE, .LtE] [b, c] = false := by with_unfolding_all rfl) : DE X E (.Compare a [.LtE, .LtE] [b, c] pos) (wCh ileW ileW wa wb wc) := de_chain op_le op_le opd_iiB opd_iiB ha hb hc hm
theorem de_lelt (ha : DE X E a wa) (hb : DE X E b wb) (hc : DE X E c wc) (hm : lastMarks [.LtE, .Lt] [b, c] = false := by with_unfolding_all rfl) : DE X E (.Compare a [.LtE, .Lt] [b, c] pos) (wCh ileW iltW wa wb wc) := de_chain op_le op_lt opd_iiB opd_iiB ha hb hc hm
end
end Dt

/-! DtJ: isinstance, sorted, texts, dicts, things of one's own. -/
namespace Dt
open PySem L2

/-! ### isinstance -/
structure ClsI (K : PySem.W.Frag) (C : Addr) : Prop where
  cl : Cls K C
  ha : PySem.W.findIn K (.ref C) "__class__" = some (some (.builtin "object.__class__"))
  hn : PySem.W.specialIn K (.builtin "object.__class__") "__get__" = some (some (.builtin "getset_descriptor.__get__"))
  htk : PySem.W.takesIn K (.builtin "object.__class__") = some true
  hm : PySem.W.mroIn K C (.type "object") = some true
/-- what a datum's class is -/
def TyD (K : PySem.W.Frag) : D → Value → Prop
  | .non, t => t = .type "NoneType"
  | .bl _, t => t = .type "bool"
  | .int _, t => t = .type "int"
  | .str _, t => t = .type "str"
  | .lst _, t => t = .type "list"
  | .tup _, t => t = .type "tuple"
  | .dct _, t => t = .type "dict"
  | .ins C _, t => t = .ref C ∧ ClsI K C
  | _, _ => False
theorem tup_ty {K : PySem.W.Frag} {H : Hp} {a : Addr} {xs : List V} (h : SqT K H a xs) : TyX K H (.ref a) (.type "tuple") := by
  rcases h with (h | ⟨o, h⟩) | ⟨o, its, n, hk, hc, _⟩
  · exact .base (.tup h)
  · exact .fTuple h
  · exact .kTuple hk hc
theorem tyD_x {K : PySem.W.Frag} {Z : Res} {n : Nat} {I H : Hp} {v : V} {d : D} {t : Value} (w : Wk Z n I H) (r : Rep K I v d) (h : TyD K d t) : TyX K H v t := by
  cases r with
  | non => cases h; exact .base .non
  | bl b => cases h; exact .base (.bl b)
  | int b => cases h; exact .base (.int b)
  | str b => cases h; exact .base (.str b)
  | lst g r => cases h; exact .base (.lst (w.ih _ _ g))
  | tup g r => cases h; exact tup_ty (w.ih.sqT g)
  | dct g r => cases h; exact .base (.dK (w.ih _ _ g))
  | ins g r =>
    obtain ⟨e, c⟩ := h
    cases e
    exact .base (.ins (w.ih _ _ g) c.cl c.ha c.hn c.htk c.hm)
  | _ => exact h.elim
def clsD : D → Option Value
  | .obj (.ty n) => some (.type n)
  | .obj (.ref a) => some (.ref a)
  | _ => none
def clsL : List D → Option (List Value)
  | [] => some []
  | d :: ds => match clsD d, clsL ds with
    | some c, some cs => some (c :: cs)
    | _, _ => none
def isiW (K : PySem.W.Frag) : WC
  | [d, .obj c], P => ∃ t u b, TyD K d t ∧ clsD (.obj c) = some u ∧ PySem.W.kitOne K t u = some b ∧ P (.bl b)
  | _, _ => False
theorem cls_rep {K : PySem.W.Frag} {I : Hp} {v : V} {d : D} {u : Value} (r : Rep K I v d) (h : clsD d = some u) : ClsV v u := by
  cases r with
  | obj v =>
    cases v with
    | ty n => cases h; exact .ty n
    | ref a => cases h; exact .own a
    | _ => cases h
  | _ => cases h
theorem clsL_rep {K : PySem.W.Frag} {I : Hp} : ∀ {vs : List V} {ds : List D} {us : List Value}, RepL K I vs ds → clsL ds = some us → Paired ClsV vs us
  | _, _, _, .nil, h => by cases h; exact .nil
  | _, _, us, .cons (d := d) (ds := ds) h r, e => by
    unfold clsL at e
    cases q : clsD d with
    | none => rw [q] at e; cases e
    | some c =>
      cases q2 : clsL ds with
      | none => rw [q, q2] at e; cases e
      | some cs =>
        rw [q, q2] at e
        cases e
        exact .cons (cls_rep h q) (clsL_rep r q2)
theorem cld_isi {K : PySem.W.Frag} : ClD K (rIsi K) (isiW K) := fun Z n I H xs ds P Q w r hf hq => by
  cases r with
  | nil => exact hf.elim
  | cons r rr => cases rr with
    | nil => exact hf.elim
    | cons r' rr => cases rr with
      | cons _ _ => exact (by cases r' <;> exact hf.elim)
      | nil =>
        cases r' with
        | obj =>
          obtain ⟨t, u, b, h1, h2, h3, h4⟩ := hf
          exact ⟨_, _, t, u, b, rfl, cls_rep (K := K) (I := I) (.obj _) h2, tyD_x w r h1, h3, hq _ _ I H w.refl (.bl _) h4⟩
        | _ => exact hf.elim
section
variable {X : Cx} {E : XK} {e e' : Expr} {es : List Expr} {p pos : Pos} {w : WE} {wa : WA}
theorem de_isi (hm : X.mg "isinstance" = none) (ha : DA X E [e, e'] wa) (hg : Gl X "isinstance" := by rfl) (he : starEach [e, e'] X.env = (false, eval e X.env) :: starEach [e'] X.env := by rfl) (hpl : (backTo pos (starEach [e'] X.env)).any (·.1) = false := by rfl) :
    DE X E (.Call (.Name "isinstance" p) [e, e'] [] pos) (wCB (isiW X.K) wa) := de_callB call_isi cld_isi hm (by decide +kernel) ha hg (by decide) (by decide) he hpl
/-- isinstance(e, (c1, c2, ..)) -/
def wIsiT (K : PySem.W.Frag) (w : WE) (wa : WA) : WE := fun c n δ P => w c n δ fun n1 d => wa c n1 δ fun n2 ds => ds.length ≤ 100 ∧ ∃ t us b, TyD K d t ∧ clsL ds = some us ∧ PySem.W.kitAny K t us = some b ∧ P n2 (.bl b)
theorem de_isiT {x1} {tp : Pos} (hm : X.mg "isinstance" = none) (h : DE X E e w) (ha : DA X E es wa) (hg : Gl X "isinstance" := by rfl) (hs1 : starEach [e, .Tuple es x1 tp] X.env = (false, eval e X.env) :: starEach [.Tuple es x1 tp] X.env := by rfl)
    (hs2 : starEach [.Tuple es x1 tp] X.env = [(false, eval (.Tuple es x1 tp) X.env)] := by rfl) (hpl : (backTo pos (starEach [.Tuple es x1 tp] X.env)).any (·.1) = false := by rfl) : DE X E (.Call (.Name "isinstance" p) [e, .Tuple es x1 tp] [] pos) (wIsiT X.K w wa) := by
  obtain ⟨_, pe, se⟩ := h
  obtain ⟨_, pa, sa⟩ := ha
  refine ⟨_, pe_callB call_isiT hg hm (by decide +kernel) (pa_cons pe (pa_cons (pe_tup pa) pa_nil hs2) hs1) (by decide) (by decide) hs1 hpl, fun Z I0 H0 cx n δ σ I H P Q hx he hw hq => se Z I0 H0 cx n δ σ I H _ _ hx he hw fun d v n1 I1 H1 s1 r1 h1 =>
    sa Z I0 H0 cx n1 δ σ I1 H1 _ _ hx (he.step s1) h1 fun ds vs n2 I2 H2 s2 r2 ⟨hl, t, us, b, h2, h3, h4, h5⟩ => ⟨by rw [r2.length]; exact Nat.le_trans hl (by decide), fun q hq2 => ?_⟩⟩
  have s3 := s2.wk.laid (o := .tup vs) hq2
  exact ⟨v, q, vs, t, us, b, rfl, upd_same, clsL_rep r2 h3, tyD_x s3.wk (r1.mono (s2.ex.trans s3.ex)) h2, h4, hq _ _ n2 _ _ ((s1.trans s2).trans s3) (.bl _) h5⟩
end
/-- the built-in classes among themselves -/
def isTy (t u : String) : Bool := t == u || (t == "bool" && u == "int")
theorem kit_b {K : PySem.W.Frag} {t u : String} (ht : t ∈ ["NoneType", "bool", "int", "str", "list", "tuple", "dict"]) (hu : u ∈ ["bool", "int", "str", "list", "tuple", "dict"]) : PySem.W.kitOne K (.type t) (.type u) = some (isTy t u) := by
  refine kit_ty ?_
  simp only [List.mem_cons, List.not_mem_nil, or_false] at ht hu
  rcases ht with rfl | rfl | rfl | rfl | rfl | rfl | rfl <;> rcases hu with rfl | rfl | rfl | rfl | rfl | rfl <;> decide +kernel

/-! ### sorted -/
theorem ltCps_iff : ∀ xs ys : List Nat, PySem.Spec.ltCps xs ys = decide (xs < ys)
  | [], [] => by simp [PySem.Spec.ltCps]
  | [], _ :: _ => by simp [PySem.Spec.ltCps]
  | _ :: _, [] => by simp [PySem.Spec.ltCps]
  | a :: r, b :: t => by
    rw [PySem.Spec.ltCps, ltCps_iff r t]
    by_cases h1 : a < b
    · simp [h1, List.cons_lt_cons_iff]
    · by_cases h2 : a = b
      · subst h2
        simp [List.cons_lt_cons_iff]
      · simp [h1, h2, List.cons_lt_cons_iff]
/-- the order of texts -/
def leS (a b : Str) : Bool := !decide (b.cps.toList < a.cps.toList)
theorem leS_iff {a b : Str} : leS a b = true ↔ a.cps.toList ≤ b.cps.toList := by
  unfold leS
  rw [Bool.not_eq_true', decide_eq_false_iff_not]
  exact List.not_lt
theorem leS_trans (a b c : Str) (h : leS a b = true) (h' : leS b c = true) : leS a c = true := leS_iff.mpr (List.le_trans (leS_iff.mp h) (leS_iff.mp h'))
theorem leS_total (a b : Str) : (leS a b || leS b a) = true := by
  rcases List.le_total a.cps.toList b.cps.toList with h | h
  · rw [leS_iff.mpr h, Bool.true_or]
  · rw [leS_iff.mpr h, Bool.or_true]
theorem leS_anti {a b : Str} (h : leS a b = true) (h' : leS b a = true) : a = b := by
  have e := List.le_antisymm (leS_iff.mp h) (leS_iff.mp h')
  obtain ⟨⟨x⟩⟩ := a
  obtain ⟨⟨y⟩⟩ := b
  simpa using e
def sortS (xs : List Str) : List Str := xs.mergeSort leS
theorem sortS_perm (xs : List Str) : (sortS xs).Perm xs := List.mergeSort_perm xs leS
theorem sortS_pw (xs : List Str) : (sortS xs).Pairwise (fun a b => leS a b = true) := List.pairwise_mergeSort leS_trans leS_total xs
theorem rising_pw : ∀ (p : Str) (l : List Str), PyProof.Rows.risingS p l = true → (p :: l).Pairwise (fun a b => leS a b = true)
  | p, [], _ => by simp
  | p, x :: r, h => by
    obtain ⟨h1, h2⟩ := Bool.and_eq_true_iff.mp (show (!PySem.Spec.ltCps x.cps.toList p.cps.toList && PyProof.Rows.risingS x r) = true from h)
    have ih := rising_pw x r h2
    have hp : leS p x = true := by
      rw [ltCps_iff] at h1
      exact h1
    refine List.pairwise_cons.mpr ⟨fun y hy => ?_, ih⟩
    rcases List.mem_cons.mp hy with rfl | hy
    · exact hp
    · exact leS_trans p x y hp ((List.pairwise_cons.mp ih).1 y hy)
theorem sorted_pw : ∀ l : List Str, PyProof.Rows.sortedS l = true → l.Pairwise (fun a b => leS a b = true)
  | [], _ => List.Pairwise.nil
  | x :: r, h => rising_pw x r h
theorem sortS_of {xs ys : List Str} (hp : ys.Perm xs) (hs : PyProof.Rows.sortedS ys = true) : ys = sortS xs :=
  List.Perm.eq_of_pairwise (fun a b _ _ h1 h2 => leS_anti h1 h2) (sorted_pw ys hs) (sortS_pw xs) (hp.trans (sortS_perm xs).symm)
theorem sortS_eq {xs ys : List Str} (hp : ys.Perm xs) (hs : ys.Pairwise (fun a b => leS a b = true)) : ys = sortS xs :=
  List.Perm.eq_of_pairwise (fun a b _ _ h1 h2 => leS_anti h1 h2) hs (sortS_pw xs) (hp.trans (sortS_perm xs).symm)
section
open PyProof.Rows
variable {prog : Program} {w : World} {A : Around} {E : Value → Shared → Prop} {s : Shared}
theorem collect_tuple {l : Addr} {vs : List Value} {Q : List Value → Shared → Prop} (hl : s.heap.IsTuple l vs.toArray) (hsz : vs.length ≤ sizeLine)
    (hQ : Q vs { s with heap := (s.heap.push (seqObj "list" #[] 0)).update s.heap.objs.size (Obj.mapSeq (· ++ vs.toArray)) }) : wpAny (model prog w) A (collect (.ref l)) Q E s := by
  obtain ⟨o, ho, hc, n, hd⟩ := id hl
  have hnew : (s.heap.push (seqObj "list" #[] 0)).get? s.heap.objs.size = some (seqObj "list" #[] 0) := Heap.get?_push_size _ rfl
  have ho' : (s.heap.push (seqObj "list" #[] 0)).get? l = some o := Heap.get?_push_of_some _ ho
  unfold collect
  refine wpAny_bind (wpAny_runValue (codeAny_builtin entry_proto_collect' ?_))
  show wpAny _ _ (do again (.builtin "list.__iadd__" ⟨[← newList [], .ref l], []⟩)) _ _ s
  refine wpAny_bind (wpAny_newList (wpAny_pure ⟨Code.quiet_builtin _ (by decide +kernel), codeAny_builtin entry_list_iadd' ?_⟩))
  show wpAny _ _ (Builtin.List.listExtendWith (.ref s.heap.objs.size) (.ref l) (.ref s.heap.objs.size)) _ _ { s with heap := s.heap.push (seqObj "list" #[] 0) }
  unfold Builtin.List.listExtendWith
  refine wpAny_bind (wpAny_typeOf (T := "tuple") ⟨o, ho', hc⟩ ?_)
  have ht : (Value.type "tuple" == Value.type "tuple") = true := by rfl
  rw [if_pos (by rw [ht]; simp)]
  refine wpAny_bind (listItems_at ho' hd (wpAny_bind (listItems_at (xs := #[]) (n := 0) hnew rfl ?_)))
  rw [if_neg (by simp)]
  refine wpAny_bind (listUpdate_at (xs := #[]) (n := 0) hnew rfl ?_ (Nat.zero_le _) (by simp; omega))
  refine wpAny_pure ?_
  show wpAny (model prog w) A (do
      let o ← load s.heap.objs.size
      match o.data with
      | .seq xs _ => pure xs.toList
      | _ => unsupported "internal:collect") Q E { s with heap := (s.heap.push (seqObj "list" #[] 0)).update s.heap.objs.size (Obj.mapSeq (· ++ vs.toArray)) }
  refine wpAny_bind (wpAny_load (get?_update_seq hnew _) ?_)
  have e : ((#[] : Array Value) ++ vs.toArray).toList = vs := by simp
  show wpAny _ _ (pure ((#[] : Array Value) ++ vs.toArray).toList) Q E _
  rw [e]
  exact wpAny_pure hQ
theorem sortedT {κ : KeyKind} (hO : κ.OneLt) {l : Addr} {vs : List Value} {Q : Value → Shared → Prop} (hl : s.heap.IsTuple l vs.toArray) (h0 : KeysOf κ (pairsOf vs)) (hkk : ∀ v₁ v₂ rest, vs = v₁ :: v₂ :: rest → keyKind' (v₁ :: v₂ :: rest).toArray = pure oneType') (hL : vs.length ≤ sizeLine)
    (hQ : ∀ st' : SortSt, (arrOf st').Perm (pairsOf vs) → SortedToK κ (arrOf st') (pairsOf vs).size → Q (.ref (s.heap.objs.size + 1)) { s with heap := sortedAll s.heap vs ((arrOf st').map (·.2)) }) :
    wpAny (model prog w) A (call (.builtin "sorted") [.ref l]) Q E s := by
  have z1 : ((s.heap.push (seqObj "list" #[] 0)).update s.heap.objs.size (Obj.mapSeq (· ++ vs.toArray))).objs.size = s.heap.objs.size + 1 := by
    rw [Heap.size_update, size_push']
  have z2 : (((s.heap.push (seqObj "list" #[] 0)).update s.heap.objs.size (Obj.mapSeq (· ++ vs.toArray))).push (seqObj "list" vs.toArray 0)).get? (s.heap.objs.size + 1) = some (seqObj "list" vs.toArray 0) := by
    rw [← z1]
    exact Heap.get?_push_size _ rfl
  refine Calls.call_function_entry kind_sorted plain_sorted entry_sorted (args_sorted1 _) ?_
  unfold Builtin.«sorted»
  refine wpAny_bind (m := checkCount "sorted" 1 1 _) (wpAny_pure (wpAny_bind (collect_tuple hl hL (wpAny_bind (wpAny_newList ?_)))))
  show wpAny _ _ _ _ _ { s with heap := ((s.heap.push (seqObj "list" #[] 0)).update s.heap.objs.size (Obj.mapSeq (· ++ vs.toArray))).push (seqObj "list" vs.toArray 0) }
  rw [z1]
  exact wpAny_bind (wpAny_holding (wpAny_call_entry slot_list_sort ⟨_, z2, rfl⟩ entry_list_sort (list_sort_treeKAny hO z2 h0 hkk hL fun st' a1 a2 => ⟨_, rfl, wpAny_pure ⟨_, rfl, hQ st' a1 a2⟩⟩) (args_list_sort _)))
end
def rSortS (K : PySem.W.Frag) : List V → Hp → VK → Prop := fun vs H Q => ∃ (b : Bool) (a : Addr) (xs : List Str), vs = [V.ref a] ∧ sSq K b H a (xs.map V.str) ∧ xs.length ≤ 1000 ∧ ∀ p, H p = none → Q (.ref p) (upd H p (.lst ((sortS xs).map V.str)))
theorem cr_sortS {X : Cx} : CallR X (.builtin "sorted") (rSortS X.K) := by
  intro pins s σ H vs us Q I r h
  obtain ⟨b, a, xs, rfl, hs, hl, q⟩ := h
  rw [Vals.ref1 r]
  obtain ⟨its, rv, p⟩ := sIs_of I hs
  have hlen0 := rv.length
  rw [List.length_map] at hlen0
  have hsz : its.length ≤ sizeLine := by
    rw [← hlen0]
    exact Nat.le_trans hl (by decide)
  have fin : ∀ (out : Array Value) (ss : List Str), PyProof.Rows.StrsAre out.toList ss → ss.Perm xs → PyProof.Rows.sortedS ss = true → EP X pins σ Q (.ref (s.heap.objs.size + 1)) { s with heap := PyProof.Rows.sortedAll s.heap its out } := fun out ss h1 h2 h3 => by
    have e := sortS_of h2 h3
    subst e
    obtain ⟨ep, he'⟩ := PyProof.Rows.sortedAll_at s.heap its out
    have hlen : ((sortS xs).map V.str).length ≤ sizeLine := by
      rw [List.length_map, h2.length_eq]
      exact Nat.le_trans hl (by decide)
    exact ⟨.ref _, upd H (s.heap.objs.size + 1) (.lst ((sortS xs).map V.str)), I.laid (t' := s.toks) (fun _ _ => PyProof.Rows.sortedAll_old) (Nat.le_succ _) ⟨hlen, out.toList, ep, vals_of_strs h1, he'⟩, rfl, q _ (I.hok.fresh (Nat.le_succ _))⟩
  cases b with
  | true => exact PyProof.Rows.sorted_strsAny p rv.strs hsz fin
  | false =>
    have hS := rv.strs
    refine sortedT PyProof.Rows.strKind_oneLt p hS.keysOf (fun v₁ v₂ rest e => PyProof.Rows.keyKind_strs (by rw [← e]; exact hS)) hsz fun st' hp hs => ?_
    obtain ⟨ss', h1, h2, h3⟩ := PyProof.Rows.sorted_out_str hS hp hs
    exact fin _ ss' h1 h2 h3
def strL : List D → Option (List Str)
  | [] => some []
  | .str s :: ds => (strL ds).map (s :: ·)
  | _ => none
theorem str_rep {K : PySem.W.Frag} {I : Hp} : ∀ {vs : List V} {ds : List D} {ss : List Str}, RepL K I vs ds → strL ds = some ss → vs = ss.map V.str
  | _, _, _, .nil, h => by cases h; rfl
  | _, _, _, .cons h r, e => by
    cases h with
    | str s =>
      obtain ⟨q, e1, e2⟩ := Option.map_eq_some_iff.mp (show (strL _).map (s :: ·) = some _ from e)
      subst e2
      rw [str_rep r e1]
      rfl
    | _ => cases e
theorem strs_rep {K : PySem.W.Frag} {I : Hp} : ∀ ss : List Str, RepL K I (ss.map V.str) (ss.map D.str)
  | [] => .nil
  | s :: ss => .cons (.str s) (strs_rep ss)
def sortSW : WC
  | [d], P => ∃ xs ss, seqD d = some xs ∧ strL xs = some ss ∧ ss.length ≤ 1000 ∧ P (.lst ((sortS ss).map .str))
  | _, _ => False
theorem clf_sortS {K : PySem.W.Frag} : ClF K (rSortS K) sortSW := fun Z n I H xs ds P Q w r hf hq => by
  cases r with
  | nil => exact hf.elim
  | cons r rr => cases rr with
    | cons _ _ => exact hf.elim
    | nil =>
      obtain ⟨ys, ss, h1, h2, h3, h4⟩ := hf
      obtain ⟨b, a, us, rfl, hs1, rl⟩ := sSq_of r h1
      have e := str_rep rl h2
      subst e
      exact ⟨b, a, ss, rfl, sSq_le w.ih hs1, h3, fun p hp => hq (.lst _) p _ _ (w.young hp) hp (w.ih.free hp) (w.nf hp) ⟨_, upd_same, strs_rep _⟩ h4⟩
end Dt

/-! DtK: texts joined and split, dicts, things of one's own changed, several names at once. -/
namespace Dt
open PySem L2

section
variable {X : Cx} {E : XK} {o e : Expr} {wo w : WE} {apos pos : Pos}
/-! ### join, split -/
def joinW : W2
  | .str a, .lst ys, P => ∃ ss, strL ys = some ss ∧ (ss.map (·.length)).sum + ss.length * a.length ≤ 16777216 ∧ P (.str (Txt.join a ss))
  | _, _, _ => False
theorem str_of {K : PySem.W.Frag} {I : Hp} {v : V} {a : Str} (r : Rep K I v (.str a)) : v = .str a := by cases r; rfl
def asS : D → (Str → Prop) → Prop
  | .str a, P => P a
  | _, _ => False
theorem asS_of {K : PySem.W.Frag} {I : Hp} {v : V} {d : D} {P : Str → Prop} (r : Rep K I v d) (h : asS d P) : ∃ a, d = .str a ∧ v = .str a ∧ P a := by
  cases r with
  | str a => exact ⟨a, rfl, rfl, h⟩
  | _ => exact h.elim
def wJoin (wo w : WE) : WE := fun c n δ P => wo c n δ fun n1 d => asS d fun a => w c n1 δ fun n2 y => joinW (.str a) y (P n2)
theorem de_join (ho : DE X E o wo) (he : DE X E e w) (hs : starEach [e] X.env = [(false, eval e X.env)] := by rfl) (hbase : attributeBase o "join" X.env (eval o X.env) = eval o X.env := by rfl) (hline : (apos.endLine == pos.line) = true := by rfl) :
    DE X E (.Call (.Attribute o "join" apos) [e] [] pos) (wJoin wo w) := by
  obtain ⟨_, po, so⟩ := ho
  obtain ⟨_, pe, se⟩ := he
  refine ⟨_, pe_join po pe hs hbase hline, fun Z I0 H0 cx n δ σ I H P Q hx he hw hq => so Z I0 H0 cx n δ σ I H _ _ hx he hw fun d v n1 I1 H1 s1 r1 h1 => ?_⟩
  obtain ⟨a, _, rfl, h2⟩ := asS_of r1 h1
  refine ⟨⟨a, rfl⟩, se Z I0 H0 cx n1 δ σ I1 H1 _ _ hx (he.step s1) h2 fun y u n2 I2 H2 s2 r2 h3 => ?_⟩
  cases r2 with
  | lst g rl =>
    obtain ⟨ss, h4, h5, h6⟩ := h3
    have e := str_rep rl h4
    subst e
    exact ⟨a, _, ss, rfl, rfl, .inl (.inl (.inl (s2.wk.ih _ _ g))), h5, hq _ _ n2 I2 H2 (s1.trans s2) (.str _) h6⟩
  | _ => exact h3.elim
def wSplit (wo w : WE) : WE := fun c n δ P => wo c n δ fun n1 d => asS d fun a => w c n1 δ fun n2 y => asS y fun b => (b.length == 0) = false ∧ a.length + 2 ≤ sizeLine ∧ P n2 (.lst ((Txt.split a b).map .str))
theorem df_split (ho : DE X E o wo) (he : DE X E e w) (hs : starEach [e] X.env = [(false, eval e X.env)] := by rfl) (hbase : attributeBase o "split" X.env (eval o X.env) = eval o X.env := by rfl) (hline : (apos.endLine == pos.line) = true := by rfl) :
    DF X E (.Call (.Attribute o "split" apos) [e] [] pos) (wSplit wo w) := by
  obtain ⟨_, po, so⟩ := ho
  obtain ⟨_, pe, se⟩ := he
  refine ⟨_, pe_split po pe hs hbase hline, fun Z I0 H0 cx n δ σ I H P Q hx he hw hq => so Z I0 H0 cx n δ σ I H _ _ hx he hw fun d v n1 I1 H1 s1 r1 h1 => ?_⟩
  obtain ⟨a, _, rfl, h2⟩ := asS_of r1 h1
  refine ⟨⟨a, rfl⟩, se Z I0 H0 cx n1 δ σ I1 H1 _ _ hx (he.step s1) h2 fun y u n2 I2 H2 s2 r2 h3 => ?_⟩
  obtain ⟨b, _, rfl, h4, h5, h6⟩ := asS_of r2 h3
  refine ⟨a, b, rfl, rfl, h4, h5, fun p hp => hq (.lst _) p _ _ _ ((s1.trans s2).trans (s2.wk.young hp)) ?_ (s2.wk.ih.free hp) (s2.wk.nf hp) ⟨_, upd_same, strs_rep _⟩ h6⟩
  cases z : H p with
  | none => rfl
  | some o => exact absurd hp ((s1.trans s2).live (by rw [z]; exact fun y => nomatch y))
end

/-! ### dict displays -/
def putD (kvs : List (Key × D)) (k : Key) (d : D) : List (Key × D) := if (kvs.any fun kv => decide (kv.1 = k)) = true then kvs.map (fun kv => if kv.1 = k then (kv.1, d) else kv) else kvs ++ [(k, d)]
theorem any_rep {K : PySem.W.Frag} {I : Hp} {k : Key} : ∀ {vs : List (Key × V)} {ds : List (Key × D)}, RepM K I vs ds → (vs.any fun kv => decide (kv.1 = k)) = (ds.any fun kv => decide (kv.1 = k))
  | _, _, .nil => rfl
  | _, _, .cons _ r => by rw [List.any_cons, List.any_cons, any_rep r]
theorem map_rep {K : PySem.W.Frag} {I : Hp} {k : Key} {v : V} {d : D} (h : Rep K I v d) : ∀ {vs : List (Key × V)} {ds : List (Key × D)}, RepM K I vs ds → RepM K I (vs.map fun kv => if kv.1 = k then (kv.1, v) else kv) (ds.map fun kv => if kv.1 = k then (kv.1, d) else kv)
  | _, _, .nil => .nil
  | _, _, .cons (k := j) g r => by
    rw [List.map_cons, List.map_cons]
    by_cases q : j = k
    · simp only [q, if_true]
      exact .cons h (map_rep h r)
    · simp only [q, if_false]
      exact .cons g (map_rep h r)
theorem RepM.append {K : PySem.W.Frag} {I : Hp} : ∀ {v u : List (Key × V)} {d e : List (Key × D)}, RepM K I v d → RepM K I u e → RepM K I (v ++ u) (d ++ e)
  | _, _, _, _, .nil, s => s
  | _, _, _, _, .cons h r, s => .cons h (r.append s)
theorem put_rep {K : PySem.W.Frag} {I : Hp} {k : Key} {v : V} {d : D} {vs : List (Key × V)} {ds : List (Key × D)} (r : RepM K I vs ds) (h : Rep K I v d) : RepM K I (putK vs k v) (putD ds k d) := by
  unfold putK putD
  rw [any_rep r]
  split
  · exact map_rep h r
  · exact r.append (.cons h .nil)
def mergeD (kvs more : List (Key × D)) : List (Key × D) := more.foldl (fun acc kv => putD acc kv.1 kv.2) kvs
theorem merge_rep {K : PySem.W.Frag} {I : Hp} : ∀ {us : List (Key × V)} {es : List (Key × D)} {vs : List (Key × V)} {ds : List (Key × D)}, RepM K I us es → RepM K I vs ds → RepM K I (mergeK vs us) (mergeD ds es)
  | _, _, _, _, .nil, r => r
  | _, _, _, _, .cons (k := k) (v := v) (vs := us) (d := d) (ds := es) h t, r => by
    have := merge_rep t (put_rep (k := k) r h)
    exact this
abbrev WPs := Ct → Nat → List Sl → (Nat → List (Key × D) → Prop) → Prop
def SPs (K : PySem.W.Frag) (E : XK) (trs : List (TE × TE)) (w : WPs) : Prop := ∀ (Z : Res) (I0 H0 : Hp) (cx : Nat → Xn → Prop) (n : Nat) (δ : List Sl) (σ : L2.St) (I H : Hp) (P : Nat → List (Key × D) → Prop) (Q : List (V × V) → Hp → Prop),
  XR K E Z I0 H0 cx → Ev K Z I0 H0 n δ σ I H → w ⟨Z, cx⟩ n δ P → (∀ kds kvs n' I' H', Stp Z I H n' I' H' → RepM K I' kvs kds → P n' kds → Q (kvs.map fun kv => (kV kv.1, kv.2)) H') → tPairs trs σ H Q
def DPs (X : Cx) (E : XK) (pos : Pos) (ks : List (Option Expr)) (vs : List Expr) (w : WPs) : Prop := ∃ trs, PPs X pos ks vs trs ∧ SPs X.K E trs w
section
variable {X : Cx} {E : XK} {k v : Expr} {ks : List (Option Expr)} {vs : List Expr} {pos : Pos} {wk wv : WE} {wr : WPs}
def psNil : WPs := fun _ n _ P => P n []
def asK : D → (Key → Prop) → Prop
  | .int i, P => P (.inl i)
  | .str s, P => P (.inr s)
  | _, _ => False
theorem asK_of {K : PySem.W.Frag} {I : Hp} {v : V} {d : D} {P : Key → Prop} (r : Rep K I v d) (h : asK d P) : ∃ q, v = kV q ∧ P q := by
  cases r with
  | int i => exact ⟨.inl i, rfl, h⟩
  | str s => exact ⟨.inr s, rfl, h⟩
  | _ => exact h.elim
def psCons (wk wv : WE) (wr : WPs) : WPs := fun c n δ P => wk c n δ fun n1 kd => asK kd fun q => wv c n1 δ fun n2 d => wr c n2 δ fun n3 kds => P n3 ((q, d) :: kds)
theorem dps_nil : DPs X E pos [] [] psNil := ⟨_, pps_nil, fun Z I0 H0 cx n δ σ I H P Q hx he hw hq => hq [] [] n I H he.wk.refl .nil hw⟩
theorem dps_cons (hk : DE X E k wk) (hv : DE X E v wv) (hr : DPs X E pos ks vs wr) : DPs X E pos (some k :: ks) (v :: vs) (psCons wk wv wr) := by
  obtain ⟨_, pk, sk⟩ := hk
  obtain ⟨_, pv, sv⟩ := hv
  obtain ⟨_, pr, sr⟩ := hr
  refine ⟨_, pps_cons pk pv pr, fun Z I0 H0 cx n δ σ I H P Q hx he hw hq => sk Z I0 H0 cx n δ σ I H _ _ hx he hw fun kd u n1 I1 H1 s1 r1 h1 => ?_⟩
  obtain ⟨q, rfl, h2⟩ := asK_of r1 h1
  exact sv Z I0 H0 cx n1 δ σ I1 H1 _ _ hx (he.step s1) h2 fun d y n2 I2 H2 s2 r2 h3 => sr Z I0 H0 cx n2 δ σ I2 H2 _ _ hx ((he.step s1).step s2) h3 fun kds kvs n3 I3 H3 s3 r3 h4 =>
    hq ((q, d) :: kds) ((q, y) :: kvs) n3 I3 H3 ((s1.trans s2).trans s3) (.cons (r2.mono s3.ex) r3) h4
def wDisp (wr : WPs) : WE := fun c n δ P => wr c n δ fun n1 kds => kds.length ≤ 15 ∧ P n1 (.dct (mergeD [] kds))
theorem df_dict (h : DPs X E pos ks vs wr) (hall : ks.all (·.isSome) = true := by rfl) (hl : ks.length = vs.length := by rfl) (h0 : ks ≠ [] := by simp) (h15 : ks.length ≤ 15 := by decide) : DF X E (.Dict ks vs pos) (wDisp wr) := by
  obtain ⟨_, p, s⟩ := h
  refine ⟨_, pe_disp p hall hl h0 h15, fun Z I0 H0 cx n δ σ I H P Q hx he hw hq => fun a ha => ?_⟩
  have s0 := he.wk.young (o := .dK []) ha
  have nf := he.wk.nf ha
  refine s Z I0 H0 cx n δ σ I _ _ _ hx (he.step s0) hw fun kds kvs n1 I1 H1 s1 r1 h1 => ?_
  have k1 : H1 a = some (.dK []) := s1.kp a _ nf upd_same
  have n1' : I1 a = none := s1.nw a (he.wk.ih.free ha) (by rw [upd_same]; exact fun z => nomatch z)
  refine ⟨k1, kvs, rfl, by rw [r1.length]; exact h1.1, hq (.dct _) a n1 I1 _ ?_ ha n1' nf ⟨_, upd_same, merge_rep r1 .nil⟩ h1.2⟩
  exact (s0.trans s1).mutY ha nf n1'
theorem df_dict0 : DF X E (.Dict [] [] pos) (wC (.dct [])) := ⟨_, pe_dnewK, fun Z I0 H0 cx n δ σ I H P Q hx he hw hq p hp => hq (.dct []) p n I _ (he.wk.young hp) hp (he.wk.ih.free hp) (he.wk.nf hp) ⟨[], upd_same, .nil⟩ hw⟩
end
/-- dict(d) -/
def dictW : WC
  | [.dct kvs], P => P (.dct kvs)
  | _, _ => False
theorem clf_dict {K : PySem.W.Frag} : ClF K (fun xs H Q => ∃ (a : Addr) (kvs : List (Key × V)), xs = [.ref a] ∧ Rd H a (.dK kvs) ∧ ∀ p, H p = none → Q (.ref p) (upd H p (.dK kvs))) dictW := fun Z n I H xs ds P Q w r hf hq => by
  cases r with
  | nil => exact hf.elim
  | cons r rr => cases rr with
    | cons _ _ => exact (by cases r <;> exact hf.elim)
    | nil => cases r with
      | dct g r => exact ⟨_, _, rfl, .inl (w.ih _ _ g), fun p hp => hq (.dct _) p _ _ (w.young hp) hp (w.ih.free hp) (w.nf hp) ⟨_, upd_same, r⟩ hf⟩
      | _ => exact hf.elim

/-! ### things of one's own, changed -/
/-- slot i holds a list of its own; it becomes f of it -/
def ownL (δ : List Sl) (i : Nat) (P : List D → Prop) : Prop := match δ[i]? with
  | some (.o (.lst xs)) => P xs
  | _ => False
def ownM (δ : List Sl) (i : Nat) (P : List (Key × D) → Prop) : Prop := match δ[i]? with
  | some (.o (.dct xs)) => P xs
  | _ => False
section
variable {K : PySem.W.Frag} {Z : Res} {n : Nat} {I0 H0 I H : Hp} {δ : List Sl} {σ : L2.St} {i : Nat}
theorem Ev.ownL (e : Ev K Z I0 H0 n δ σ I H) {P : List D → Prop} (h : ownL δ i P) : ∃ xs a vs, δ[i]? = some (.o (.lst xs)) ∧ σ[i]? = some (some (.ref a)) ∧ H a = some (.lst vs) ∧ RepL K I vs xs ∧ P xs := by
  unfold Dt.ownL at h
  split at h
  · rename_i xs q
    obtain ⟨a, h1, h2, h3, h4, vs, h5, h6⟩ := e.owns i _ q
    exact ⟨xs, a, vs, q, h1, h5, h6, h⟩
  · exact h.elim
theorem Ev.ownM (e : Ev K Z I0 H0 n δ σ I H) {P : List (Key × D) → Prop} (h : ownM δ i P) : ∃ xs a vs, δ[i]? = some (.o (.dct xs)) ∧ σ[i]? = some (some (.ref a)) ∧ H a = some (.dK vs) ∧ RepM K I vs xs ∧ P xs := by
  unfold Dt.ownM at h
  split at h
  · rename_i xs q
    obtain ⟨a, h1, h2, h3, h4, vs, h5, h6⟩ := e.owns i _ q
    exact ⟨xs, a, vs, q, h1, h5, h6, h⟩
  · exact h.elim
/-- the list of slot i is changed -/
theorem Ev.setL {a : Addr} {xs ys : List D} {us : List V} (e : Ev K Z I0 H0 n δ σ I H) (hi : δ[i]? = some (Sl.o (.lst xs))) (hs : σ[i]? = some (some (V.ref a))) (r : RepL K I us ys) : Ev K Z I0 H0 n (δ.set i (.o (.lst ys))) σ I (upd H a (.lst us)) := e.mut hi hs ⟨us, upd_same, r⟩
theorem Ev.setM {a : Addr} {xs ys : List (Key × D)} {us : List (Key × V)} (e : Ev K Z I0 H0 n δ σ I H) (hi : δ[i]? = some (Sl.o (.dct xs))) (hs : σ[i]? = some (some (V.ref a))) (r : RepM K I us ys) : Ev K Z I0 H0 n (δ.set i (.o (.dct ys))) σ I (upd H a (.dK us)) := e.mut hi hs ⟨us, upd_same, r⟩
end
section
variable {X : Cx} {E : XK} {k : Nat} {q : Bool} {x : Str} {e e2 : Expr} {w w2 : WE} {np apos cpos pos tpos : Pos}
/-- x.append(e) -/
def wApp (i : Nat) (w : WE) : WS := fun c De n δ => ownL δ i fun xs => xs.length < sizeLine ∧ w c n δ fun n1 d => De.nx n1 (δ.set i (.o (.lst (xs ++ [d]))))
theorem ds_app (i : Nat) (h : DE X E e w) (hN : X.N[i]? = some x := by rfl) (hv : Vis X.env.scope x := by first | exact Or.inl rfl | exact Or.inr (Or.inl rfl) | exact Or.inr (Or.inr rfl)) (hd : (x == ("__debug__" : Str)) = false := by decide) (hcd : (x == ("__classdict__" : Str)) = false := by decide)
    (hbase : attributeBase (.Name x np) "append" X.env (eval (.Name x np) X.env) = eval (.Name x np) X.env := by rfl)
    (hfew : ((backTo cpos (starEach [e] X.env)).all (fun x => !x.1) && (backToKw cpos (keywordEach [] X.env)).all (fun x => x.1.isSome) && decide (([e] : List Expr).length + ([] : List Keyword).length + (if ([] : List Keyword).isEmpty then 0 else 1) < 30)) = true := by rfl)
    (hline : (apos.endLine == cpos.line) = true := by rfl) (hs : starEach [e] X.env = (false, eval e X.env) :: starEach [] X.env := by rfl) (hsw : swapsWith (.Call (.Attribute (.Name x np) "append" apos) [e] [] cpos) none pos.line X.env = pure false := by rfl) :
    DS X E (.Expr (.Call (.Attribute (.Name x np) "append" apos) [e] [] cpos) pos) (wApp i w) := by
  obtain ⟨_, p, s⟩ := h
  refine ⟨_, ps_expr (pe_bm PySem.F.plainAttrs_list PySem.F.slot_list_append PySem.F.type_list_append mt_append (pe_var hN hv hd hcd) (pa_cons p pa_nil hs) hbase hfew hline hs rfl) hsw, fun Z I0 H0 cx De D' n δ σ I H hx ho he hw => ?_⟩
  obtain ⟨xs, a, vs, h1, h2, h3, h4, h5, h6⟩ := he.ownL hw
  refine ⟨_, h2, Or.inl ⟨rfl, _, Or.inl (Or.inl h3)⟩, s Z I0 H0 cx n δ σ I H _ _ hx he h6 fun d v n1 I1 H1 s1 r1 h7 => ?_⟩
  have he1 := he.step s1
  obtain ⟨b, g1, g2, g3, g4, us, g5, g6⟩ := he1.owns i _ h1
  rw [h2] at g1
  cases g1
  exact ⟨a, us, v, rfl, rfl, g5, by rw [g6.length]; exact h5, ho.nx _ _ _ I1 _ s1.ex (he1.setL h1 h2 (g6.append (.cons r1 .nil))) h7⟩
/-- x[i] = e of a list -/
def wSetI (i : Nat) (wj w : WE) : WS := fun c De n δ => w c n δ fun n1 d => ownL δ i fun xs => wj c n1 δ fun n2 jd => asI jd fun j => ∃ m, ixN xs.length j = some m ∧ De.nx n2 (δ.set i (.o (.lst (xs.set m d))))
theorem ds_setI (i : Nat) (hj : DE X E e2 w2) (h : DE X E e w) (hN : X.N[i]? = some x := by rfl) (hv : Vis X.env.scope x := by first | exact Or.inl rfl | exact Or.inr (Or.inl rfl) | exact Or.inr (Or.inr rfl)) (hd : (x == ("__debug__" : Str)) = false := by decide) (hcd : (x == ("__classdict__" : Str)) = false := by decide)
    (hs : swapsWithSole [.Subscript (.Name x np) e2 tpos] e pos.line X.env = pure false := by rfl) (hw : swappedStores [.Subscript (.Name x np) e2 tpos] e X.env = pure none := by rfl) (h1 : (assignEach [.Subscript (.Name x np) e2 tpos] X.env).map (·.2) = [assign (.Subscript (.Name x np) e2 tpos) X.env] := by rfl)
    (hsub : ∀ v, assign (.Subscript (.Name x np) e2 tpos) X.env v = (do
      let ov ← holding [v] (eval (.Name x np) X.env)
      let iv ← holding [v, ov] (eval e2 X.env)
      standAt tpos
      holding [v, ov, iv] (setItem ov iv v)
      release [v, ov, iv] []) := by intro _; rfl) :
    DS X E (.Assign [.Subscript (.Name x np) e2 tpos] e pos) (wSetI i w2 w) := by
  obtain ⟨_, p, s⟩ := h
  obtain ⟨_, pj, sj⟩ := hj
  refine ⟨_, ps_asg p (pg_sub (pe_var hN hv hd hcd) pj set_list hsub) hs hw h1, fun Z I0 H0 cx De D' n δ σ I H hx ho he hw => s Z I0 H0 cx n δ σ I H _ _ hx he hw fun d v n1 I1 H1 s1 r1 h1 => ?_⟩
  obtain ⟨xs, a, vs, h2, h3, h4, h5, h6⟩ := (he.step s1).ownL h1
  refine ⟨_, h3, sj Z I0 H0 cx n1 δ σ I1 H1 _ _ hx (he.step s1) h6 fun jd u n2 I2 H2 s2 r2 h7 => ?_⟩
  obtain ⟨j, rfl, m, h8, h9⟩ := asI_of r2 h7
  have he2 := (he.step s1).step s2
  obtain ⟨b, g1, g2, g3, g4, us, g5, g6⟩ := he2.owns i _ h2
  rw [h3] at g1
  cases g1
  exact ⟨a, us, j, m, rfl, rfl, g5, by rw [g6.length]; exact h8, ho.nx _ _ _ I2 _ (s1.ex.trans s2.ex) (he2.setL h2 h3 (g6.set m (r1.mono s2.ex))) h9⟩
/-- x[k] = e of a dict -/
def wPutI (i : Nat) (wj w : WE) : WS := fun c De n δ => w c n δ fun n1 d => ownM δ i fun xs => xs.length < sizeLine ∧ wj c n1 δ fun n2 jd => asK jd fun j => De.nx n2 (δ.set i (.o (.dct (putD xs j d))))
theorem ds_putI (g : Gx X E k q) (i : Nat) (hj : DE X E e2 w2) (h : DE X E e w) (hN : X.N[i]? = some x := by rfl) (hv : Vis X.env.scope x := by first | exact Or.inl rfl | exact Or.inr (Or.inl rfl) | exact Or.inr (Or.inr rfl)) (hd : (x == ("__debug__" : Str)) = false := by decide) (hcd : (x == ("__classdict__" : Str)) = false := by decide)
    (hs : swapsWith e (some (.Subscript (.Name x np) e2 tpos)) pos.line X.env = pure false := by rfl) : DS X E (.Assign [.Subscript (.Name x np) e2 tpos] e pos) (wPutI i w2 w) := by
  obtain ⟨_, p, s⟩ := h
  obtain ⟨_, pj, sj⟩ := hj
  refine ⟨_, ps_dput g.u1 (pe_var hN hv hd hcd) pj p hs, fun Z I0 H0 cx De D' n δ σ I H hx ho he hw => s Z I0 H0 cx n δ σ I H _ _ hx he hw fun d v n1 I1 H1 s1 r1 h1 => ?_⟩
  obtain ⟨xs, a, vs, h2, h3, h4, h5, hl, h6⟩ := (he.step s1).ownM h1
  refine ⟨_, h3, sj Z I0 H0 cx n1 δ σ I1 H1 _ _ hx (he.step s1) h6 fun jd u n2 I2 H2 s2 r2 h7 => ?_⟩
  obtain ⟨j, rfl, h9⟩ := asK_of r2 h7
  have he2 := (he.step s1).step s2
  obtain ⟨b, g1, g2, g3, g4, us, g5, g6⟩ := he2.owns i _ h2
  rw [h3] at g1
  cases g1
  exact ⟨a, _, rfl, DPut.k g5 (by rw [g6.length]; exact hl), ho.nx _ _ _ I2 _ (s1.ex.trans s2.ex) (he2.setM h2 h3 (put_rep g6 (r1.mono s2.ex))) h9⟩
end

/-! ### several names at once -/
def SlR (K : PySem.W.Frag) (Z : Res) (H I' H' : Hp) (v : V) : Sl → Prop
  | .v d => Rep K I' v d
  | .o d => ∃ p, v = .ref p ∧ H p = none ∧ I' p = none ∧ ¬ Z.F p ∧ OwnC K I' H' p d
  | .un => False
abbrev WX1 := Ct → Nat → List Sl → (Nat → Sl → Prop) → Prop
def SX (K : PySem.W.Frag) (E : XK) (t : TE) (w : WX1) : Prop := ∀ (Z : Res) (I0 H0 : Hp) (cx : Nat → Xn → Prop) (n : Nat) (δ : List Sl) (σ : L2.St) (I H : Hp) (P : Nat → Sl → Prop) (Q : VK),
  XR K E Z I0 H0 cx → Ev K Z I0 H0 n δ σ I H → w ⟨Z, cx⟩ n δ P → (∀ s v n' I' H', Stp Z I H n' I' H' → SlR K Z H I' H' v s → P n' s → Q v H') → t σ H Q
def DX (X : Cx) (E : XK) (e : Expr) (w : WX1) : Prop := ∃ t, PE X e t ∧ SX X.K E t w
def xV (w : WE) : WX1 := fun c n δ P => w c n δ fun n1 d => P n1 (.v d)
def xO (w : WE) : WX1 := fun c n δ P => w c n δ fun n1 d => P n1 (.o d)
theorem dx_v {X : Cx} {E : XK} {e : Expr} {w : WE} (h : DE X E e w) : DX X E e (xV w) := let ⟨t, p, s⟩ := h; ⟨t, p, fun Z I0 H0 cx n δ σ I H P Q hx he hw hq => s Z I0 H0 cx n δ σ I H _ _ hx he hw fun d v n1 I1 H1 s1 r1 h1 => hq (.v d) v n1 I1 H1 s1 r1 h1⟩
theorem dx_o {X : Cx} {E : XK} {e : Expr} {w : WE} (h : DF X E e w) : DX X E e (xO w) := let ⟨t, p, s⟩ := h; ⟨t, p, fun Z I0 H0 cx n δ σ I H P Q hx he hw hq => s Z I0 H0 cx n δ σ I H _ _ hx he hw fun d v n1 I1 H1 s1 z1 z2 z3 ow h1 => hq (.o d) _ n1 I1 H1 s1 ⟨v, rfl, z1, z2, z3, ow⟩ h1⟩
section
variable {K : PySem.W.Frag} {Z : Res} {n : Nat} {I0 H0 I H I1 H1 I2 H2 : Hp} {δ : List Sl} {σ : L2.St} {i j l : Nat} {v u t : V} {s r q : Sl}
theorem SlR.step (x : SlR K Z H I1 H1 v s) (st : Stp Z I1 H1 n I2 H2) : SlR K Z H I2 H2 v s := by
  cases s with
  | un => exact x
  | v d => exact Rep.mono st.ex x
  | o d =>
    obtain ⟨p, e, h1, h2, h3, h4⟩ := x
    exact ⟨p, e, h1, st.nw p h2 h4.live, h3, h4.step st.ex fun o => st.kp p o h3⟩
theorem Ev.putS (e : Ev K Z I0 H0 n δ σ I H) (x : SlR K Z H1 I H v s) (h0 : ∀ p, H1 p = none → H0 p = none) (hn : ∀ p, H1 p = none → ∀ (j : Nat) (c : D), δ[j]? = some (Sl.o c) → σ[j]? ≠ some (some (V.ref p))) : Ev K Z I0 H0 n (δ.set i s) (σ.set i (some v)) I H := by
  cases s with
  | un => exact x.elim
  | v d => exact e.put x
  | o d =>
    obtain ⟨p, rfl, h1, h2, h3, h4⟩ := x
    exact e.putO h2 h3 (h0 p h1) h4 (hn p h1)
/-- what is new behind is no slot's -/
theorem notOwn_set {p : Addr} (hn : ∀ (j : Nat) (c : D), δ[j]? = some (Sl.o c) → σ[j]? ≠ some (some (V.ref p))) (hl : σ.length = δ.length) (hv : ∀ d, s = .o d → v ≠ .ref p) : ∀ (j : Nat) (c : D), (δ.set i s)[j]? = some (Sl.o c) → (σ.set i (some v))[j]? ≠ some (some (V.ref p)) := fun j c h => by
  by_cases z : i = j
  · subst z
    have il : i < δ.length := by
      have := (List.getElem?_eq_some_iff.mp h).1
      simpa using this
    rw [List.getElem?_set_self il] at h
    rw [List.getElem?_set_self (by rw [hl]; exact il)]
    intro z
    cases h
    cases z
    exact hv c rfl rfl
  · rw [List.getElem?_set_ne z] at h ⊢
    exact hn j c h
theorem SlR.ne {p : Addr} (x : SlR K Z H I1 H1 v s) (hp : H1 p = none) : ∀ d, s = .o d → v ≠ .ref p := fun d e z => by
  subst e
  obtain ⟨a, e1, _, _, _, h4⟩ := x
  rw [e1] at z
  cases z
  exact h4.live hp
end
def wPar2 (i j : Nat) (wa wb : WX1) : WS := fun c De n δ => wa c n δ fun n1 a => wb c n1 δ fun n2 b => De.nx n2 ((δ.set i a).set j b)
def wPar3 (i j l : Nat) (wa wb wc : WX1) : WS := fun c De n δ => wa c n δ fun n1 a => wb c n1 δ fun n2 b => wc c n2 δ fun n3 d => De.nx n3 (((δ.set i a).set j b).set l d)
theorem live_back {Z : Res} {n : Nat} {I H I1 H1 : Hp} (s : Stp Z I H n I1 H1) {p : Addr} (h : H1 p = none) : H p = none := by
  cases z : H p with
  | none => rfl
  | some o => exact absurd h (s.live (by rw [z]; exact fun y => nomatch y))
section
variable {X : Cx} {E : XK} {k : Nat} {q : Bool} {x y z : Str} {a b c : Expr} {wa wb wc : WX1} {px py pz pt pos : Pos} {kt k2 pt2}
theorem ds_par2 (g : Gx X E k q) (i j : Nat) (ha : DX X E a wa) (hb : DX X E b wb) (hij : i ≠ j := by decide) (hi : X.N[i]? = some x := by rfl) (hj : X.N[j]? = some y := by rfl) (hx : X.env.scope.names.lookup x = some .local := by rfl) (hy : X.env.scope.names.lookup y = some .local := by rfl)
    (hw : swappedStores [.Tuple [.Name x px, .Name y py] kt pt] (.Tuple [a, b] k2 pt2) X.env = pure (some [x, y]) := by rfl) (hs : swapsWithSole [.Tuple [.Name x px, .Name y py] kt pt] (.Tuple [a, b] k2 pt2) pos.line X.env = pure false := by rfl)
    (s1 : starEach [a, b] X.env = (false, eval a X.env) :: starEach [b] X.env := by rfl) (s2 : starEach [b] X.env = (false, eval b X.env) :: starEach [] X.env := by rfl) : DS X E (.Assign [.Tuple [.Name x px, .Name y py] kt pt] (.Tuple [a, b] k2 pt2) pos) (wPar2 i j wa wb) := by
  obtain ⟨_, pa, sa⟩ := ha
  obtain ⟨_, pb, sb⟩ := hb
  refine ⟨_, ps_par g.calm g.nd hi hj hij hx hy (pa_cons pa (pa_cons pb pa_nil s2) s1) hw hs, fun Z I0 H0 cx De D' n δ σ I H hx ho he hw => sa Z I0 H0 cx n δ σ I H _ _ hx he hw fun u v n1 I1 H1 t1 r1 h1 => sb Z I0 H0 cx n1 δ σ I1 H1 _ _ hx (he.step t1) h1 fun u2 v2 n2 I2 H2 t2 r2 h2 => ⟨v, v2, rfl, ?_⟩⟩
  have e2 := (he.step t1).step t2
  have f1 := e2.putS (i := i) (r1.step t2) (fun p hp => he.base0 hp) (fun p hp => he.notOwn hp)
  have f2 := f1.putS (i := j) r2 (fun p hp => he.base0 (live_back t1 hp)) (fun p hp => notOwn_set ((he.step t1).notOwn hp) he.len (r1.ne hp))
  exact ho.nx _ _ _ I2 H2 (t1.ex.trans t2.ex) f2 h2
theorem ds_par3 (g : Gx X E k q) (i j l : Nat) (ha : DX X E a wa) (hb : DX X E b wb) (hc : DX X E c wc) (hij : i ≠ j := by decide) (hil : i ≠ l := by decide) (hjl : j ≠ l := by decide) (hi : X.N[i]? = some x := by rfl) (hj : X.N[j]? = some y := by rfl) (hl : X.N[l]? = some z := by rfl)
    (hx : X.env.scope.names.lookup x = some .local := by rfl) (hy : X.env.scope.names.lookup y = some .local := by rfl) (hz : X.env.scope.names.lookup z = some .local := by rfl)
    (hw : swappedStores [.Tuple [.Name x px, .Name y py, .Name z pz] kt pt] (.Tuple [a, b, c] k2 pt2) X.env = pure (some [x, y, z]) := by rfl) (hs : swapsWithSole [.Tuple [.Name x px, .Name y py, .Name z pz] kt pt] (.Tuple [a, b, c] k2 pt2) pos.line X.env = pure false := by rfl)
    (s1 : starEach [a, b, c] X.env = (false, eval a X.env) :: starEach [b, c] X.env := by rfl) (s2 : starEach [b, c] X.env = (false, eval b X.env) :: starEach [c] X.env := by rfl) (s3 : starEach [c] X.env = (false, eval c X.env) :: starEach [] X.env := by rfl) :
    DS X E (.Assign [.Tuple [.Name x px, .Name y py, .Name z pz] kt pt] (.Tuple [a, b, c] k2 pt2) pos) (wPar3 i j l wa wb wc) := by
  obtain ⟨_, pa, sa⟩ := ha
  obtain ⟨_, pb, sb⟩ := hb
  obtain ⟨_, pc, sc⟩ := hc
  refine ⟨_, ps_par3 g.calm g.nd hi hj hl hij hil hjl hx hy hz (pa_cons pa (pa_cons pb (pa_cons pc pa_nil s3) s2) s1) hw hs, fun Z I0 H0 cx De D' n δ σ I H hx ho he hw => sa Z I0 H0 cx n δ σ I H _ _ hx he hw fun u v n1 I1 H1 t1 r1 h1 => sb Z I0 H0 cx n1 δ σ I1 H1 _ _ hx (he.step t1) h1 fun u2 v2 n2 I2 H2 t2 r2 h2 =>
    sc Z I0 H0 cx n2 δ σ I2 H2 _ _ hx ((he.step t1).step t2) h2 fun u3 v3 n3 I3 H3 t3 r3 h3 => ⟨v, v2, v3, rfl, ?_⟩⟩
  have e2 := ((he.step t1).step t2).step t3
  have f1 := e2.putS (i := i) ((r1.step t2).step t3) (fun p hp => he.base0 hp) (fun p hp => he.notOwn hp)
  have f2 := f1.putS (i := j) (r2.step t3) (fun p hp => he.base0 (live_back t1 hp)) (fun p hp => notOwn_set ((he.step t1).notOwn hp) he.len (r1.ne hp))
  have f3 := f2.putS (i := l) r3 (fun p hp => he.base0 (live_back (t1.trans t2) hp)) (fun p hp => notOwn_set (notOwn_set (((he.step t1).step t2).notOwn hp) he.len ((r1.step t2).ne hp)) (by rw [List.length_set, List.length_set]; exact he.len) (r2.ne hp))
  exact ho.nx _ _ _ I3 H3 ((t1.ex.trans t2.ex).trans t3.ex) f3 h3
end
end Dt

/-! DtL: the draws: a state of one's own kind that the calls change. -/
namespace Dt
open PySem L2

def stK (l c : Addr) (r t : Int) : List (L2.Key × V) := [(.inr "large", .ref l), (.inr "cells", .ref c), (.inr "rest", .int r), (.inr "turn", .int t)]
def stD (ls ns : List Int) (r t : Int) : List (L2.Key × D) := [(.inr "large", .scr ls), (.inr "cells", .scr ns), (.inr "rest", .int r), (.inr "turn", .int t)]
structure Dr (H : Hp) (st l c : Addr) (r t : Int) (ls ns : List Int) : Prop where
  hs : H st = some (.dK (stK l c r t))
  hl : H l = some (.lst (ls.map V.int))
  hc : H c = some (.lst (ns.map V.int))
  ne : l ≠ c
  t0 : 0 ≤ t
  nl : ns.length ≤ 1000
theorem Dr.n1 {H : Hp} {st l c : Addr} {r t : Int} {ls ns : List Int} (d : Dr H st l c r t ls ns) : l ≠ st := fun z => by
  have := d.hl
  rw [z, d.hs] at this
  cases this
theorem Dr.n2 {H : Hp} {st l c : Addr} {r t : Int} {ls ns : List Int} (d : Dr H st l c r t ls ns) : c ≠ st := fun z => by
  have := d.hc
  rw [z, d.hs] at this
  cases this
theorem Dr.rep {K : PySem.W.Frag} {H : Hp} {st l c : Addr} {r t : Int} {ls ns : List Int} (d : Dr H st l c r t ls ns) : Rep K H (.ref st) (.dct (stD ls ns r t)) :=
  .dct d.hs (.cons (.scr (.inl (.inl d.hl))) (.cons (.scr (.inl (.inl d.hc))) (.cons (.int r) (.cons (.int t) .nil))))
theorem Dr.keep {H H' : Hp} {st l c : Addr} {r t : Int} {ls ns : List Int} (d : Dr H st l c r t ls ns) (k : ∀ a, a = st ∨ a = l ∨ a = c → H' a = H a) : Dr H' st l c r t ls ns :=
  ⟨by rw [k _ (.inl rfl)]; exact d.hs, by rw [k _ (.inr (.inl rfl))]; exact d.hl, by rw [k _ (.inr (.inr rfl))]; exact d.hc, d.ne, d.t0, d.nl⟩
theorem put_rest (l c : Addr) (r t r' : Int) : putK (stK l c r t) (.inr "rest") (.int r') = stK l c r' t := by rfl
theorem put_turn (l c : Addr) (r t t' : Int) : putK (stK l c r t) (.inr "turn") (.int t') = stK l c r t' := by rfl
theorem Dr.putR {H : Hp} {st l c : Addr} {r t r' : Int} {ls ns : List Int} (d : Dr H st l c r t ls ns) : Dr (upd H st (.dK (stK l c r' t))) st l c r' t ls ns :=
  ⟨upd_same, by rw [upd_ne d.n1]; exact d.hl, by rw [upd_ne d.n2]; exact d.hc, d.ne, d.t0, d.nl⟩
theorem Dr.putT {H : Hp} {st l c : Addr} {r t t' : Int} {ls ns : List Int} (d : Dr H st l c r t ls ns) (h : 0 ≤ t') : Dr (upd H st (.dK (stK l c r t'))) st l c r t' ls ns :=
  ⟨upd_same, by rw [upd_ne d.n1]; exact d.hl, by rw [upd_ne d.n2]; exact d.hc, d.ne, h, d.nl⟩
theorem Dr.pop {H : Hp} {st l c : Addr} {r t : Int} {ls ns : List Int} (d : Dr H st l c r t ls ns) (ls' : List Int) : Dr (upd H l (.lst (ls'.map V.int))) st l c r t ls' ns :=
  ⟨by rw [upd_ne (Ne.symm d.n1)]; exact d.hs, upd_same, by rw [upd_ne (Ne.symm d.ne)]; exact d.hc, d.ne, d.t0, d.nl⟩
/-- the draws' own cells -/
def dr (st l c : Addr) : Res where
  F := fun a => a = st ∨ a = l ∨ a = c
  J := fun n H => ∃ r t ls ns, Dr H st l c r t ls ns ∧ t ≤ (n : Int)
  loc := fun n H H' k ⟨r, t, ls, ns, d, h⟩ => ⟨r, t, ls, ns, d.keep k, h⟩
  mono := fun n m H h ⟨r, t, ls, ns, d, q⟩ => ⟨r, t, ls, ns, d, by omega⟩
def IsDr (Z : Res) (st : Addr) : Prop := ∃ l c, Z = dr st l c

theorem Wk.all {n : Nat} (H : Hp) : Wk Res.nil n H H := ⟨Le.refl _, trivial, fun _ f => f.elim, fun _ f => f.elim⟩
theorem Stp.allK {n : Nat} {H I' H' : Hp} (s : Stp Res.nil H H n I' H') : Le H H' := fun a o h => s.kp a o (fun f => f) h

/-! ### _law_mixed -/
/-- Sp of it -/
def spMix : Sp := fun vs H Q _ => ∃ st l c r t ls ns, vs = [.ref st] ∧ Dr H st l c r t ls ns ∧ t < 2 ^ 40 ∧
  ∀ (x : Int) H', (∀ b o, b ≠ st → H b = some o → H' b = some o) → H' st = some (.dK (stK l c r (t + 1))) → Q (.int x) H'
def wTurn : WE := wOp addW (wOp ixW (wVar 0) (wC (.str "turn"))) (wC (.int 1))
def wInt (w : WE) : WE := wCB intW (wCons w wNil)
def wCell : WS := wSet 3 (wOp modW (wInt (wOp addW (wOp mulW (wVar 3) (wC (.int 48271))) (wVar 4))) (wVar 2))
def wInner : WS := wForS (wItems (wOp ixW (wVar 0) (wC (.str "cells")))) (gN 4) wCell
def wMixB : WS := wSeq (wSet 3 (wOp addW (wOp mulW (wC (.int 104729)) (wOp ixW (wVar 0) (wC (.str "turn")))) (wOp fdivW (wVar 2) (wC (.int 7)))))
  (wSeq wInner (wSet 1 (wOp addW (wOp mulW (wVar 1) (wC (.int 2147483647))) (wOp modW (wInt (wOp powW (wVar 3) (wC (.int 5)))) (wVar 2)))))
def lits : List Int → WA
  | [] => wNil
  | i :: is => wCons (wC (.int i)) (lits is)
def primes : List Int := [2147483629, 2147483587, 2147483579, 2147483563, 2147483549, 2147483543]
def wMix : WS := wSeq (wSet 1 (wC (.int 0))) (wSeq (wForS (wItems (wLst (lits primes))) (gN 2) wMixB) (wRet (wVar 1)))
theorem log2_le {i : Int} {k : Nat} (h : i.natAbs < 2 ^ k) (hk : 0 < k) : i.natAbs.log2 < k := by
  by_cases z : i.natAbs = 0
  · rw [z]; simpa using hk
  · exact (Nat.log2_lt z).mpr h
theorem lits_ok (c : Ct) (n : Nat) (δ : List Sl) : ∀ (is : List Int) (P : Nat → List D → Prop), P n (is.map .int) → lits is c n δ P
  | [], P, h => h
  | i :: is, P, h => lits_ok c n δ is _ h
/-- the inner loop keeps the blend small -/
theorem inner_ok (c : Ct) (De : DEnds) (n : Nat) (p : Int) (hp : 0 < p) (hp2 : p < 2 ^ 32) (sd : D) (f : Sl) (hn : ∀ b x, 0 ≤ b → b < 2 ^ 64 → De.nx n [.v sd, f, .v (.int p), .v (.int b), x]) :
    ∀ (ns : List Int) (b : Int) (x : Sl), 0 ≤ b → b < 2 ^ 64 → wFor (gN 4) wCell c De (ns.map D.int) n [.v sd, f, .v (.int p), .v (.int b), x]
  | [], b, x, h0, h1 => hn b x h0 h1
  | i :: ns, b, x, h0, h1 => by
    refine ⟨?_, hp, ?_⟩
    · show CMulW b 48271
      have h1' := log2_le (i := b) (k := 64) (by omega) (by decide)
      have : (48271 : Int).natAbs.log2 < 16 := by decide
      unfold CMulW
      omega
    · have m0 := Int.emod_nonneg (b * 48271 + i) (show p ≠ 0 by omega)
      have m1 := Int.emod_lt_of_pos (b * 48271 + i) hp
      exact inner_ok c De n p hp hp2 sd f hn ns _ _ m0 (Int.lt_trans m1 (by omega))
theorem pow5 {b : Int} (h0 : 0 ≤ b) (h1 : b < 2 ^ 64) : CPow b 5 := ⟨by decide, by decide, by omega⟩
theorem mixed_ok (c : Ct) (De : DEnds) (n : Nat) (ls ns : List Int) (r t : Int) (ht0 : 0 ≤ t) (ht1 : t < 2 ^ 42) (hn : ∀ f a b x, De.nx n [.v (.dct (stD ls ns r t)), .v (.int f), a, b, x]) :
    ∀ (ps : List Int) (m : Nat) (f : Int) (a b x : Sl), (∀ p ∈ ps, 0 < p ∧ p < 2 ^ 32) → 0 ≤ f → f < 2 ^ m → m + 64 * ps.length < 900000 →
      wFor (gN 2) wMixB c De (ps.map D.int) n [.v (.dct (stD ls ns r t)), .v (.int f), a, b, x]
  | [], m, f, a, b, x, _, _, _, _ => hn f a b x
  | p :: ps, m, f, a, b, x, hp, h0, h1, hm => by
    obtain ⟨p0, p1⟩ := hp p (by simp)
    have hm' : m + 64 * ps.length + 64 < 900000 := by simpa [Nat.mul_add, Nat.add_assoc] using hm
    have b0 : 0 ≤ 104729 * t + p / 7 := by omega
    have b1 : 104729 * t + p / 7 < 2 ^ 64 := by omega
    refine ⟨_, _, rfl, rfl, ?_, ?_, _, _, rfl, rfl, _, rfl, inner_ok c _ n p p0 p1 _ _ ?_ ns _ _ b0 b1⟩
    · show CMulW 104729 t
      have h1' := log2_le (i := t) (k := 42) (by omega) (by decide)
      have : (104729 : Int).natAbs.log2 < 17 := by decide
      unfold CMulW
      omega
    · exact ⟨by decide, by decide⟩
    intro b x g0 g1
    refine ⟨?_, pow5 g0 g1, p0, ?_⟩
    · show CMulW f 2147483647
      have h1' := log2_le (i := f) (k := m + 1) (by
        have : f.natAbs = f.toNat := by omega
        have h2 : (f.toNat : Int) < ((2 ^ m : Nat) : Int) := by rw [Int.toNat_of_nonneg h0]; simpa using h1
        have h3 : f.toNat < 2 ^ m := by exact_mod_cast h2
        rw [this, Nat.pow_succ]
        omega) (by omega)
      have : (2147483647 : Int).natAbs.log2 < 31 := by decide
      unfold CMulW
      omega
    · have m0 := Int.emod_nonneg (b ^ 5) (show p ≠ 0 by omega)
      have m1 := Int.emod_lt_of_pos (b ^ 5) p0
      refine mixed_ok c De n ls ns r t ht0 ht1 hn ps (m + 64) _ _ _ _ (fun q hq => hp q (List.mem_cons_of_mem _ hq)) ?_ ?_ (by omega)
      · show 0 ≤ f * 2147483647 + b ^ 5 % p
        exact Int.add_nonneg (Int.mul_nonneg h0 (by decide)) m0
      · show f * 2147483647 + b ^ 5 % p < 2 ^ (m + 64)
        have e1 : (2 : Int) ^ (m + 64) = 2 ^ m * 2 ^ 64 := by rw [Int.pow_add]
        have e2 : (1 : Int) ≤ 2 ^ m := Int.pow_pos (by decide)
        rw [e1]
        generalize (2 : Int) ^ m = M at *
        generalize b ^ 5 % p = y at *
        omega
theorem mix_ok (c : Ct) (n : Nat) (P : Nat → D → Prop) (ls ns : List Int) (r t : Int) (ht0 : 0 ≤ t) (ht1 : t < 2 ^ 42) (a b x y : Sl) (hP : ∀ i, P n (.int i)) : wMix c ⟨fun m _ => P m .non, P, fun _ _ => False, fun _ _ => False⟩ n [.v (.dct (stD ls ns r t)), a, b, x, y] := by
  have key := mixed_ok c ⟨wRet (wVar 1) c ⟨fun m _ => P m .non, P, fun _ _ => False, fun _ _ => False⟩, P, fun _ _ => False, fun _ _ => False⟩ n ls ns r t ht0 ht1 (fun f a b x => hP f) primes 1 0 b x y (by decide) (by decide) (by decide) (by decide)
  exact lits_ok c n [.v (.dct (stD ls ns r t)), .v (.int 0), b, x, y] primes (fun n1 ds => ds.length ≤ sizeLine ∧ ∃ xs, itemsD (.lst ds) = some xs ∧ wFor (gN 2) wMixB c ⟨wRet (wVar 1) c ⟨fun m _ => P m .non, P, fun _ _ => False, fun _ _ => False⟩, P, fun _ _ => False, fun _ _ => False⟩ xs n1 [.v (.dct (stD ls ns r t)), .v (.int 0), b, x, y]) ⟨by decide, _, rfl, key⟩

theorem mix_of {P : Program} {w : World} {K : PySem.W.Frag} {mg : Str → Option Value} {base : Heap} {k : Nat} {x qual : Str} {params : Arguments} {body : List Stmt} {scope : Scope} {f : Addr} {fd : FuncData} {N ps : List Str}
    (F : FunD K x qual params body scope [] [] f fd) (S : FnScope N ps scope) (hN : N.length = 5) (hp : ps.length = 1)
    (hbody : ∀ (cdv : Value) (A : Around) (outer : List Env) (s : Shared) (H : Hp) (E : XK), Gx (cxOf (L2.CX P w) P w K mg base N qual scope f cdv A outer s H E) E k false →
      ∃ t1 t2, PSs (cxOf (L2.CX P w) P w K mg base N qual scope f cdv A outer s H E) body (tSeq (sDPut (tVar 0) (tC (.str "turn")) t1) t2) ∧ SE K E t1 wTurn ∧ SS K E t2 wMix) : FnOk P w K mg base (L2.CX P w) (k + 1) f fd ps spMix := by
  obtain ⟨oc, od, dV, kV, doc, pm, an, cdv, ct, osl, rfl, lk, hcd, _, _⟩ := F.ex
  refine fn_of lk hcd S (fun vs H Q E ⟨st, l, c, r, t, ls, ns, e, _⟩ => by rw [e, hp]; rfl) fun A outer s H vs Q E hroom ⟨st, l, c, r, t, ls, ns, e, hd, ht, hq⟩ => ?_
  subst e
  obtain ⟨t1, t2, pt, s1, s2⟩ := hbody cdv A outer s H E ⟨passes_call (takes_of rfl rfl rfl rfl) (fun _ _ _ _ h => h), passes_of rfl, rfl, hroom, (fun z => nomatch z), S.nd, takes_of rfl rfl rfl rfl⟩
  refine ⟨_, pt, ?_⟩
  have ev : ∀ (H : Hp) (d : D), Rep K H (.ref st) d → Ev K Res.nil H H 0 (δ0 N [d]) (L2.start N [.ref st]) H H := fun H d h => Ev.start (Wk.all H) (.cons h .nil)
  have e5 : ∀ d : D, δ0 N [d] = [.v d, .un, .un, .un, .un] := fun d => by
    unfold δ0
    rw [hN]
    rfl
  have e1 := ev H _ hd.rep
  rw [e5] at e1
  refine s1 Res.nil H H (fun _ _ => False) 0 _ _ H H (fun _ d => d = .int (t + 1)) _ XR.no e1 ⟨_, _, rfl, rfl, rfl⟩ fun d v n' I' H' sp rv hv => ?_
  subst hv
  cases rv
  have k1 := sp.allK
  have d1 : Dr H' st l c r t ls ns := ⟨k1 _ _ hd.hs, k1 _ _ hd.hl, k1 _ _ hd.hc, hd.ne, hd.t0, hd.nl⟩
  refine ⟨_, rfl, st, _, rfl, DPut.k (k := .inr "turn") d1.hs (by show 4 < sizeLine; rw [sizeLine_eq]; omega), ?_⟩
  rw [put_turn]
  have d2 := d1.putT (t' := t + 1) (by have := d1.t0; omega)
  have e2 := ev _ _ d2.rep
  rw [e5] at e2
  have hpo : ∀ i, (fun (_ : Nat) d => ∃ i, d = D.int i) 0 (.int i) := fun i => ⟨i, rfl⟩
  refine s2 Res.nil _ _ (fun _ _ => False) ⟨fun m _ => (∃ i, D.non = D.int i), fun _ d => ∃ i, d = D.int i, fun _ _ => False, fun _ _ => False⟩ _ 0 _ _ _ _ XR.no ⟨fun _ _ _ _ _ _ _ h => (by obtain ⟨i, h⟩ := h; cases h), fun d v n I' H2 sp2 rv ⟨i, hv⟩ => ?_, fun _ _ _ _ _ _ _ h => h.elim, fun _ _ _ _ _ _ _ h => h.elim⟩ e2 ?_
  · subst hv
    cases rv
    have k2 := sp2.allK
    exact hq i H2 (fun b o hb e => k2 b o (by rw [upd_ne hb]; exact k1 b o e)) (k2 _ _ d2.hs)
  · exact mix_ok _ 0 (fun _ d => ∃ i, d = D.int i) ls ns r (t + 1) (by have := d1.t0; omega) (by omega) _ _ _ _ fun f => ⟨f, rfl⟩

/-! ### _law_take -/
def cfTake : Con := fun c n ds P => ∃ (st : Addr) (size : Int), IsDr c.Z st ∧ ds = [.obj (.ref st), .int size] ∧ 0 < size ∧ size.natAbs.log2 < 9000 ∧ n < 2 ^ 40 ∧ ∀ r : Int, 0 ≤ r → r < size → P (n + 1) (.int r)
def tLarge (K : PySem.W.Frag) : TE := tOp (fun x y H Q => rIx K x y H Q ∨ ∃ a v, x = .ref a ∧ DGet H a y (some v) ∧ Q v H) (tVar 0) (tC (.str "large"))
def wRest : WE := wOp ixW (wVar 0) (wC (.str "rest"))
def tTake (K : PySem.W.Frag) (E : XK) (tc tl : TT) (t2 t3 : TE) : TS :=
  tSeq (tIfS tc (sDPut (tVar 0) (tC (.str "rest")) (tIf tl (tBM K "list" rPopAt (tLarge K) (tCons (tC (.int 0)) tNil)) (tCall spMix [] E (tCons (tVar 0) tNil)))) tNext)
    (tSeq (tAsg t2 (gName 2)) (tSeq (sDPut (tVar 0) (tC (.str "rest")) t3) (tRet (tVar 2))))
structure Kp (H H1 : Hp) (st l c : Addr) : Prop where
  k : ∀ b o, b ≠ st → b ≠ l → b ≠ c → H b = some o → H1 b = some o
theorem Kp.le {H H1 H2 : Hp} {st l c : Addr} (a : Kp H H1 st l c) (b : Le H1 H2) : Kp H H2 st l c := ⟨fun x o h1 h2 h3 e => b _ _ (a.k x o h1 h2 h3 e)⟩
theorem Kp.up {H H1 : Hp} {st l c p : Addr} {o : HO} (a : Kp H H1 st l c) (hp : p = st ∨ p = l ∨ p = c) : Kp H (upd H1 p o) st l c := ⟨fun x u h1 h2 h3 e => by
  have : x ≠ p := fun z => by
    rcases hp with h | h | h
    · exact h1 (z.trans h)
    · exact h2 (z.trans h)
    · exact h3 (z.trans h)
  rw [upd_ne this]
  exact a.k x u h1 h2 h3 e⟩
theorem Dr.le {H H' : Hp} {st l c : Addr} {r t : Int} {ls ns : List Int} (d : Dr H st l c r t ls ns) (k : Le H H') : Dr H' st l c r t ls ns := ⟨k _ _ d.hs, k _ _ d.hl, k _ _ d.hc, d.ne, d.t0, d.nl⟩
theorem val_large (l c : Addr) (r t : Int) : valV (stK l c r t) (.inr "large") = some (.ref l) := by rfl
theorem take_of {P : Program} {w : World} {K : PySem.W.Frag} {mg : Str → Option Value} {base : Heap} {k : Nat} {x qual : Str} {params : Arguments} {body : List Stmt} {scope : Scope} {f : Addr} {fd : FuncData} {N ps : List Str}
    (F : FunD K x qual params body scope [] [] f fd) (S : FnScope N ps scope) (hN : N.length = 3) (hp : ps.length = 2)
    (hbody : ∀ (cdv : Value) (A : Around) (outer : List Env) (s : Shared) (H : Hp) (E : XK), Gx (cxOf (L2.CX P w) P w K mg base N qual scope f cdv A outer s H E) E k false →
      ∃ tc tl t2 t3, PSs (cxOf (L2.CX P w) P w K mg base N qual scope f cdv A outer s H E) body (tTake K E tc tl t2 t3) ∧ ST K E tc (wB (wOp eqW wRest (wC (.int 0)))) ∧ ST K E tl (wB (wOp neW (wOp ixW (wVar 0) (wC (.str "large"))) (wLst wNil))) ∧
        SE K E t2 (wOp modW (wInt wRest) (wVar 1)) ∧ SE K E t3 (wOp fdivW wRest (wVar 1))) : FnOk P w K mg base (L2.CX P w) (k + 1) f fd ps (spOf K cfTake) := by
  obtain ⟨oc, od, dV, kV, doc, pm, an, cdv, ct, osl, rfl, lk, hcd, _, _⟩ := F.ex
  refine fn_of lk hcd S (fun vs H Q E ⟨Z, n, I, ds, P, cx, hw, hr, ⟨st, size, _, e, _⟩, _⟩ => by rw [hr.length, e, hp]; rfl) fun A outer s H vs Q E hroom ⟨Z, n, I, ds, P, cx, hw, hr, ⟨st, size, ⟨l, c, eZ⟩, e, hs0, hs1, hn, hP⟩, hq, hx⟩ => ?_
  subst eZ
  subst e
  obtain rfl : vs = [.ref st, .int size] := by
    cases hr with
    | cons h1 h2 =>
      cases h1
      cases h2 with
      | cons h3 h4 =>
        cases h3
        cases h4
        rfl
  obtain ⟨tc, tl, t2, t3, pt, sc, sl, s2, s3⟩ := hbody cdv A outer s H E ⟨passes_call (takes_of rfl rfl rfl rfl) (fun _ _ _ _ h => h), passes_of rfl, rfl, hroom, (fun z => nomatch z), S.nd, takes_of rfl rfl rfl rfl⟩
  refine ⟨_, pt, ?_⟩
  obtain ⟨r, t, ls, ns, hd, ht⟩ := hw.j
  have ev : ∀ {H : Hp} {r t : Int} {ls ns : List Int}, Dr H st l c r t ls ns → Ev K Res.nil H H 0 (δ0 N [.dct (stD ls ns r t), .int size]) (L2.start N [.ref st, .int size]) H H := fun h => Ev.start (Wk.all _) (.cons h.rep (.cons (.int size) .nil))
  have e3 : ∀ d e : D, δ0 N [d, e] = [.v d, .v e, .un] := fun d e => by
    unfold δ0
    rw [hN]
    rfl
  have es : L2.start N [.ref st, .int size] = [some (.ref st), some (.int size), none] := by
    unfold L2.start
    rw [hN]
    rfl
  rw [es] at ev ⊢
  -- the second half
  have half : ∀ (H1 : Hp) (r t : Int) (ls ns : List Int), Dr H1 st l c r t ls ns → t ≤ n + 1 → Kp H H1 st l c →
      tSeq (tAsg t2 (gName 2)) (tSeq (sDPut (tVar 0) (tC (.str "rest")) t3) (tRet (tVar 2))) { nx := fun _ H' => Q .non H', rt := Q } [some (.ref st), some (.int size), none] H1 := by
    intro H1 r t ls ns d1 ht1 kp
    have e1 := ev d1
    rw [e3] at e1
    refine s2 Res.nil H1 H1 (fun _ _ => False) 0 _ _ H1 H1 (fun _ d => d = .int (r % size)) _ XR.no e1 ⟨_, _, rfl, rfl, hs0, rfl⟩ fun d v n' I' H2 sp rv hv => ?_
    subst hv
    cases rv
    have d2 := d1.le sp.allK
    have e2 := ev d2
    rw [e3] at e2
    have e2' := e2.put (i := 2) (v := .int (r % size)) (d := .int (r % size)) (.int _)
    refine s3 Res.nil H2 H2 (fun _ _ => False) 0 _ _ H2 H2 (fun _ d => d = .int (r / size)) _ XR.no e2' ⟨_, _, rfl, rfl, ⟨hs0, hs1⟩, rfl⟩ fun d v n' I' H3 sp3 rv hv => ?_
    subst hv
    cases rv
    have d3 := d2.le sp3.allK
    refine ⟨_, rfl, st, _, rfl, DPut.k (k := .inr "rest") d3.hs (by show 4 < sizeLine; rw [sizeLine_eq]; omega), ?_⟩
    rw [put_rest]
    have d4 := d3.putR (r' := r / size)
    have kp4 := ((kp.le sp.allK).le sp3.allK).up (o := .dK (stK l c (r / size) t)) (.inl rfl)
    have lv : ∀ a, (dr st l c).F a → upd H3 st (.dK (stK l c (r / size) t)) a ≠ none := fun a f => by
      rcases f with h | h | h
      · rw [h, d4.hs]; exact fun z => nomatch z
      · rw [h, d4.hl]; exact fun z => nomatch z
      · rw [h, d4.hc]; exact fun z => nomatch z
    refine ⟨_, rfl, hq (.int (r % size)) _ (n + 1) I _ ⟨⟨fun a o h => ?_, ⟨_, _, _, _, d4, by omega⟩, hw.zf, lv⟩, Le.refl _, fun a o nf h => ?_, fun a h _ => h⟩ (.int _) (hP _ (Int.emod_nonneg _ (by omega)) (Int.emod_lt_of_pos _ hs0))⟩
    · refine kp4.k a o ?_ ?_ ?_ (hw.ih a o h)
      · exact fun z => by rw [z, hw.zf st (.inl rfl)] at h; cases h
      · exact fun z => by rw [z, hw.zf l (.inr (.inl rfl))] at h; cases h
      · exact fun z => by rw [z, hw.zf c (.inr (.inr rfl))] at h; cases h
    · exact kp4.k a o (fun z => nf (.inl z)) (fun z => nf (.inr (.inl z))) (fun z => nf (.inr (.inr z))) h
  -- the first half
  have e1 := ev hd
  rw [e3] at e1
  refine sc Res.nil H H (fun _ _ => False) 0 _ _ H H (fun _ _ => True) _ XR.no e1 ⟨_, _, rfl, rfl, ⟨0, by decide, rfl, rfl⟩, trivial⟩ fun b n' I' H1 sp _ => ?_
  have d1 := hd.le sp.allK
  have kp1 : Kp H H1 st l c := ⟨fun b o _ _ _ e => sp.allK b o e⟩
  cases b with
  | false => exact half H1 r t ls ns d1 (by omega) kp1
  | true =>
    have e2 := ev d1
    rw [e3] at e2
    refine sl Res.nil H1 H1 (fun _ _ => False) 0 _ _ H1 H1 (fun _ b => b = true → ls ≠ []) _ XR.no e2 ⟨_, _, rfl, rfl, by decide, ⟨4, by decide, by rfl, by rfl⟩, ?_⟩ fun b n' I' H2 sp2 hb => ?_
    · intro h e
      subst e
      cases h
    have d2 := d1.le sp2.allK
    have kp2 := kp1.le sp2.allK
    have fin : ∀ (H3 : Hp) (r t r' : Int) (ls : List Int), Dr H3 st l c r t ls ns → t ≤ n + 1 → Kp H H3 st l c → (fun (v : V) (H1 : Hp) => tVar 0 [some (.ref st), some (.int size), none] H1 fun x H2 => tC (.str "rest") [some (.ref st), some (.int size), none] H2 fun y H3 => ∃ a H4, x = .ref a ∧ DPut H3 a y v H4 ∧
        tSeq (tAsg t2 (gName 2)) (tSeq (sDPut (tVar 0) (tC (.str "rest")) t3) (tRet (tVar 2))) { nx := fun _ H' => Q .non H', rt := Q } [some (.ref st), some (.int size), none] H4) (.int r') H3 := by
      intro H3 r t r' ls d3 ht3 kp3
      refine ⟨_, rfl, st, _, rfl, DPut.k (k := .inr "rest") d3.hs (by show 4 < sizeLine; rw [sizeLine_eq]; omega), ?_⟩
      rw [put_rest]
      exact half _ _ t ls ns d3.putR ht3 (kp3.up (.inl rfl))
    cases b with
    | true =>
      obtain ⟨i, js, rfl⟩ := List.exists_cons_of_ne_nil (hb rfl)
      refine ⟨_, rfl, .inr ⟨st, .ref l, rfl, ?_, .inl ⟨rfl, _, .inl (.inl d2.hl)⟩, l, _, 0, 0, .int i, rfl, rfl, d2.hl, by decide, by decide, by simp [seqIndex?], rfl, ?_⟩⟩
      · rw [← val_large l c r t]
        exact DGet.k (k := .inr "large") d2.hs
      · exact fin _ r t i js (d2.pop js) (by omega) (kp2.up (.inr (.inl rfl)))
    | false =>
      refine ⟨_, rfl, ⟨st, l, c, r, t, ls, ns, rfl, d2, by omega, fun y H3 k3 hs3 => ?_⟩⟩
      have d3 : Dr H3 st l c r (t + 1) ls ns := ⟨hs3, k3 _ _ d2.n1 d2.hl, k3 _ _ d2.n2 d2.hc, d2.ne, by have := d2.t0; omega, d2.nl⟩
      exact fin H3 r (t + 1) y ls d3 (by omega) ⟨fun b o h1 h2 h3 e => k3 b o h1 (kp2.k b o h1 h2 h3 e)⟩

/-! ### _law_begun -/
def wTen : WE := wOp powW (wC (.int 10)) (wC (.int 18))
def wLarge : WE := wLc (wItems (wVar 0)) (gN 2) (wB (wOp geW (wVar 2) wTen)) (wOp subW (wVar 2) wTen) [2]
theorem ten_ok : CPow 10 18 := ⟨by decide, by decide, by decide⟩
theorem large_ok (c : Ct) (n : Nat) (d : Sl) (e : Sl) (P : Nat → List D → Prop) : ∀ (ns : List Int), (∀ ls : List Int, P n (ls.map D.int)) → wLoop (gN 2) (wB (wOp geW (wVar 2) wTen)) (wOp subW (wVar 2) wTen) c [d, e, .un] (ns.map D.int) n P
  | [], h => h []
  | i :: ns, h => by
    refine ⟨ten_ok, ?_⟩
    show if decide ((10 : Int) ^ (18 : Int).toNat ≤ i) = true then _ else _
    split
    · exact ⟨ten_ok, trivial, large_ok c n d e _ ns fun ls => h ((i - 10 ^ (18 : Int).toNat) :: ls)⟩
    · exact large_ok c n d e P ns h
def spBeg (K : PySem.W.Frag) : Sp := fun vs H Q _ => ∃ (a : Addr) (ns : List Int), vs = [.ref a] ∧ SqL K H a (ns.map V.int) ∧ ns.length ≤ 1000 ∧
  ∀ st l c ls H', Le H H' → H st = none → H l = none → H c = none → Dr H' st l c 0 0 ls ns → Q (.ref st) H'
def tBeg (tl tc : TE) : TS := tSeq (tAsg tl (gName 1)) (tRet (tDisp [(tC (.str "large"), tVar 1), (tC (.str "cells"), tc), (tC (.str "rest"), tC (.int 0)), (tC (.str "turn"), tC (.int 0))]))
theorem ints_of {K : PySem.W.Frag} {I : Hp} : ∀ {ns : List Int} {vs : List V}, RepL K I vs (ns.map D.int) → vs = ns.map V.int
  | [], _, .nil => rfl
  | i :: ns, _, .cons h r => by
    cases h
    rw [ints_of r]
    rfl
theorem beg_of {P : Program} {w : World} {K : PySem.W.Frag} {mg : Str → Option Value} {base : Heap} {k : Nat} {x qual : Str} {params : Arguments} {body : List Stmt} {scope : Scope} {f : Addr} {fd : FuncData} {N ps : List Str}
    (F : FunD K x qual params body scope [] [] f fd) (S : FnScope N ps scope) (hN : N.length = 3) (hp : ps.length = 1)
    (hbody : ∀ (cdv : Value) (A : Around) (outer : List Env) (s : Shared) (H : Hp) (E : XK), Gx (cxOf (L2.CX P w) P w K mg base N qual scope f cdv A outer s H E) E k false →
      ∃ tl tc, PSs (cxOf (L2.CX P w) P w K mg base N qual scope f cdv A outer s H E) body (tBeg tl tc) ∧ SF K E tl wLarge ∧ SF K E tc (wCB listW (wCons (wVar 0) wNil))) : FnOk P w K mg base (L2.CX P w) (k + 1) f fd ps (spBeg K) := by
  obtain ⟨oc, od, dV, kV, doc, pm, an, cdv, ct, osl, rfl, lk, hcd, _, _⟩ := F.ex
  refine fn_of lk hcd S (fun vs H Q E ⟨a, ns, e, _⟩ => by rw [e, hp]; rfl) fun A outer s H vs Q E hroom ⟨a, ns, e, hsq, hl, hq⟩ => ?_
  subst e
  obtain ⟨tl, tc, pt, s1, s2⟩ := hbody cdv A outer s H E ⟨passes_call (takes_of rfl rfl rfl rfl) (fun _ _ _ _ h => h), passes_of rfl, rfl, hroom, (fun z => nomatch z), S.nd, takes_of rfl rfl rfl rfl⟩
  refine ⟨_, pt, ?_⟩
  have ev : ∀ {H : Hp}, SqL K H a (ns.map V.int) → Ev K Res.nil H H 0 (δ0 N [.scr ns]) (L2.start N [.ref a]) H H := fun h => Ev.start (Wk.all _) (.cons (.scr h) .nil)
  have e3 : δ0 N [.scr ns] = [.v (.scr ns), .un, .un] := by
    unfold δ0
    rw [hN]
    rfl
  have es : L2.start N [.ref a] = [some (.ref a), none, none] := by
    unfold L2.start
    rw [hN]
    rfl
  rw [es, e3] at ev
  rw [es]
  have sz : ns.length ≤ sizeLine := by rw [sizeLine_eq]; omega
  refine s1 Res.nil H H (fun _ _ => False) 0 _ _ H H (fun _ d => ∃ ls : List Int, d = .lst (ls.map .int)) _ XR.no (ev hsq) ⟨_, rfl, by rw [List.length_map]; exact sz, large_ok _ _ _ _ _ ns fun ls => ⟨ls, rfl⟩⟩ fun d p n' I1 H1 sp hp0 hI nf ow ⟨ls, hd⟩ => ?_
  subst hd
  obtain ⟨vs, h1, r1⟩ := ow
  obtain rfl := ints_of r1
  have k1 := sp.allK
  intro st hst
  have k2 : Le H1 (upd H1 st (.dK [])) := Le.new hst
  have hsq2 : SqL K (upd H1 st (.dK [])) a (ns.map V.int) := (k1.trans k2).sqL hsq
  have lv : ∀ {o : HO}, some o ≠ (none : Option HO) := fun z => nomatch z
  have hst0 : H st = none := Le.free k1 hst
  refine ⟨_, rfl, ?_⟩
  have e2 := (ev hsq2).put (i := 1) (v := .ref p) (d := .obj (.ref p)) (.obj _)
  refine s2 Res.nil _ _ (fun _ _ => False) 0 _ _ _ _ (fun _ d => d = .lst (ns.map .int)) _ XR.no e2 rfl fun d c n' I2 H2 sp2 hc0 hI2 nf2 ow2 hd => ?_
  subst hd
  obtain ⟨vs, h2, r2⟩ := ow2
  obtain rfl := ints_of r2
  have k3 := sp2.allK
  have hc1 : H1 c = none := Le.free k2 hc0
  have pst : p ≠ st := fun z => by rw [z, hst] at h1; cases h1
  have cst : c ≠ st := fun z => by rw [z, upd_same] at hc0; cases hc0
  have pc : p ≠ c := fun z => by rw [z, hc1] at h1; cases h1
  have hp2 : H2 p = some (.lst (ls.map V.int)) := k3 _ _ (by rw [upd_ne pst]; exact h1)
  have hs2 : H2 st = some (.dK []) := k3 _ _ upd_same
  refine ⟨hs2, [(.inr "large", .ref p), (.inr "cells", .ref c), (.inr "rest", .int 0), (.inr "turn", .int 0)], rfl, (by show 4 ≤ 15; decide), ?_⟩
  refine hq st p c ls _ (fun b o hb => ?_) hst0 hp0 (Le.free k1 hc1) ⟨upd_same, by rw [upd_ne pst]; exact hp2, by rw [upd_ne cst]; exact h2, pc, by decide, hl⟩
  have : b ≠ st := fun z => by rw [z, hst0] at hb; cases hb
  rw [upd_ne this]
  exact k3 _ _ (by rw [upd_ne this]; exact k1 _ _ hb)

/-! ### the law: its first statement lays the draws' state -/
def spLaw (K : PySem.W.Frag) : Sp := fun vs H Q _ => ∃ (a : Addr) (ns : List Int), vs = [.ref a] ∧ SqL K H a (ns.map V.int) ∧ ns.length ≤ 63 ∧ ∀ H', Q (.bl true) H'
theorem Rep.of1 {K : PySem.W.Frag} {H : Hp} {a : Addr} {vs : List V} (h : SqL K H a vs) : SqL K (fun b => if b = a then H b else none) a vs := by
  rcases h with (h | ⟨o, h⟩) | h
  · exact .inl (.inl (by simp [h]))
  · exact .inl (.inr ⟨o, by simp [h]⟩)
  · exact .inr h
theorem law_of {P : Program} {w : World} {K : PySem.W.Frag} {mg : Str → Option Value} {base : Heap} {k : Nat} {x qual : Str} {params : Arguments} {body : List Stmt} {scope : Scope} {f : Addr} {fd : FuncData} {N ps : List Str} {w2 : WS}
    (F : FunD K x qual params body scope [] [] f fd) (S : FnScope N ps scope) (hp : ps.length = 1)
    (hbody : ∀ (cdv : Value) (A : Around) (outer : List Env) (s : Shared) (H : Hp) (E : XK), Gx (cxOf (L2.CX P w) P w K mg base N qual scope f cdv A outer s H E) E k true →
      ∃ t2, PSs (cxOf (L2.CX P w) P w K mg base N qual scope f cdv A outer s H E) body (tSeq (tAsg (tCall (spBeg K) [] E (tCons (tVar 0) tNil)) (gName 1)) t2) ∧ SS K E t2 w2)
    (hw : ∀ (st l c : Addr) (ns : List Int), ns.length ≤ 63 → w2 ⟨dr st l c, fun _ _ => False⟩ ⟨fun _ _ => False, fun _ d => d = .bl true, fun _ _ => False, fun _ _ => False⟩ 0 ((δ0 N [.scr ns]).set 1 (.v (.obj (.ref st))))) : FnG P w K mg base (k + 1) f fd ps (spLaw K) := by
  refine fnG_of F S (fun vs H Q E ⟨a, ns, e, _⟩ => by rw [e, hp]; rfl) fun cdv A outer s H vs Q E g ⟨a, ns, e, hsq, hl, hq⟩ => ?_
  subst e
  obtain ⟨t2, pt, s2⟩ := hbody cdv A outer s H E g
  refine ⟨_, pt, ?_⟩
  have hs0 : (L2.start N [.ref a])[0]? = some (some (.ref a)) := by
    unfold L2.start
    rfl
  refine ⟨_, hs0, ⟨a, ns, rfl, hsq, by omega, fun st l c ls H' k1 h1 h2 h3 hd => ?_⟩⟩
  have hsq1 := Rep.of1 hsq
  let I : Hp := fun b => if b = a then H b else none
  have lI : Le I H' := fun b o e => by
    have e' : (if b = a then H b else none) = some o := e
    split at e'
    · exact k1 _ _ e'
    · cases e'
  have nI : ∀ b, H b = none → I b = none := fun b e => by
    show (if b = a then H b else none) = none
    split
    · exact e
    · rfl
  have wk : Wk (dr st l c) 0 I H' := ⟨lI, ⟨_, _, _, _, hd, by decide⟩, fun b f => by
    rcases f with h | h | h
    · rw [h]; exact nI _ h1
    · rw [h]; exact nI _ h2
    · rw [h]; exact nI _ h3, fun b f => by
    rcases f with h | h | h
    · rw [h, hd.hs]; exact fun z => nomatch z
    · rw [h, hd.hl]; exact fun z => nomatch z
    · rw [h, hd.hc]; exact fun z => nomatch z⟩
  have ev := (Ev.start (K := K) (N := N) wk (.cons (.scr hsq1) .nil)).put (i := 1) (v := .ref st) (d := .obj (.ref st)) (.obj _)
  exact s2 _ _ _ (fun _ _ => False) ⟨fun _ _ => False, fun _ d => d = .bl true, fun _ _ => False, fun _ _ => False⟩ _ 0 _ _ I H' XR.no ⟨fun _ _ _ _ _ _ _ h => h.elim, fun d v n I' H2 sp2 rv hv => by
    subst hv
    cases rv
    exact hq H2, fun _ _ _ _ _ _ _ h => h.elim, fun _ _ _ _ _ _ _ h => h.elim⟩ ev (hw st l c ns hl)
/-! ### _law_pick -/
def cfPick : Con := fun c n ds P => ∃ (st : Addr) (d : D) (xs : List D), IsDr c.Z st ∧ ds = [.obj (.ref st), d] ∧ (d = .lst xs ∨ d = .tup xs) ∧ xs ≠ [] ∧ xs.length < 2 ^ 62 ∧ n < 2 ^ 40 ∧ ∀ x ∈ xs, P (n + 1) x
def wPick : WS := wRet (wOp ixW (wVar 1) (wCall cfTake (wCons (wVar 0) (wCons (wCB lenW (wCons (wVar 1) wNil)) wNil))))
theorem atI_nat {xs : List D} {r : Int} (h0 : 0 ≤ r) (h1 : r < xs.length) : ∃ x ∈ xs, atI xs r = some x := by
  have hl : r.toNat < xs.length := by omega
  refine ⟨xs[r.toNat], List.getElem_mem hl, ?_⟩
  unfold atI ixN
  simp [h0, h1, hl]
  done
theorem pick_ok (c : Ct) (n : Nat) (ds : List D) (P : Nat → D → Prop) (h : cfPick c n ds P) : wPick c ⟨fun m _ => P m .non, P, fun _ _ => False, fun _ _ => False⟩ n (ds.map .v) := by
  obtain ⟨st, d, xs, hz, rfl, hd, hne, hl, hn, hP⟩ := h
  have h0 : 0 < xs.length := List.length_pos_iff.mpr hne
  have key : ∀ (r : Int), 0 ≤ r → r < xs.length → ixW d (.int r) (P (n + 1)) := fun r r0 r1 => by
    obtain ⟨x, hx, ha⟩ := atI_nat r0 r1
    rcases hd with rfl | rfl
    · exact ⟨x, ha, hP x hx⟩
    · exact ⟨x, ha, hP x hx⟩
  have tk : cfTake c n [.obj (.ref st), .int xs.length] fun n' e => ixW d e (P n') := ⟨st, _, hz, rfl, by omega, by
    have := log2_le (i := (xs.length : Int)) (k := 62) (by simpa using hl) (by decide)
    omega, hn, fun r r0 r1 => key r r0 r1⟩
  rcases hd with rfl | rfl
  · exact tk
  · exact tk
end Dt

/-! DtM: the end: a law whose def may tell texts. -/
namespace Dt
open PySem PySem.Spec PyProof.Rows L2

section
variable {P : Program} {w : World} {K : PySem.W.Frag} {mg mb : Str → Option Value} {k : Nat} {fn sc : Addr} {fd : FuncData} {x : Str} {sp : Sp} {S : Shared} {us : List Value} {ns : List Int}
abbrev scrO (us : List Value) : Obj := { cls := .type "list", data := .seq us.toArray }
/-- from a heap that tracks the script alone, or nothing -/
theorem lawG_core (KX : K.In S.heap) (nsG : S.heap.Ns mainGlobals mg) (nsB : S.heap.Ns builtinsNs mb) (bb : ∀ y : Str, y ≠ "__name__" → mb y = bootBuiltins y) (nl : S.heap.NoLimit) (gg : S.gens = #[]) (at_ : S.heap.get? sc = some (scrO us)) (hr : Room k callerA)
    (F : ∀ b : Heap, K.In b → b.Ns mainGlobals mg → FnG P w K mg b k fn fd [x] sp) (bnd : ∀ (s : Shared) (u : Value), BindsTo s fd ⟨[u], []⟩ [(x, u)]) (H : Hp) (on : Only H) (hok : HOk P w H S.heap) (tr : ∀ b u, H b = some u → b = sc) (kn : ∀ u, H sc = some u → K.lookup sc = none)
    (pr : sp [.ref sc] H (fun v _ => v = .bl true) fun _ _ _ => False) :
    codeAny (model P w) callerA (.call (.ref fn) ⟨[.ref sc], []⟩) (fun r s' => r = .ok (.ret (.bool true)) ∧ OldK S.heap s'.heap ∧ s'.os = S.os ∧ AllBare s'.gens) S := by
  have un : ∀ {b : Addr} {o : Obj}, S.heap.get? b = some o → o ≠ scrO us → H b = none := fun {b o} e d => by
    cases q : H b with
    | none => rfl
    | some u =>
      have z := tr b u q
      rw [z, at_] at e
      exact absurd (Option.some.inj e).symm d
  have nsT : ∀ {b : Addr} {m : Str → Option Value}, S.heap.Ns b m → (hidT S.heap H).Ns b m := fun {b m} ⟨o, es, ep, e, d, r⟩ => ⟨o, es, ep, hidT_get e (un e (fun z => by rw [z] at d; cases d)), d, r⟩
  have kT : K.In (hidT S.heap H) := fun b o e => hidT_get (KX b o e) (by
    cases q : H b with
    | none => rfl
    | some u =>
      have z := tr b u q
      subst z
      rw [kn u q] at e
      cases e)
  obtain ⟨mc, l1, l2⟩ := nl
  have md : Mod K mg (hidT S.heap H) := ⟨kT, nsT nsG, ⟨mb, nsT nsB, bb⟩, mc, nsT l1, l2⟩
  have e0 : Env0 P w K mg (hidT S.heap H) callerA [] S H := ⟨rfl, md, fun b o e => of_hidT e, Nat.le_of_eq (hidT_size _ _), trivial, fun b h => (by cases (show b ∈ ([] : List Addr) from h)), hok, .of_eq gg⟩
  have go := (F _ kT (nsT nsG)).run callerA [] S H ⟨[.ref sc], []⟩ [.ref sc] [.ref sc] _ _ rfl hr e0 (bnd S (.ref sc)) (.cons rfl .nil) pr
  refine codeAny_mono go fun r s' h => ?_
  match r, h with
  | .error e, h => obtain ⟨_, _, _, _, _, _, _, _, _, _, _, _, z⟩ := (show L2.CX P w [] H S (fun _ _ _ => False) e s' from h); exact z.elim
  | .ok .next, h => exact h.elim
  | .ok .brk, h => exact h.elim
  | .ok .cont, h => exact h.elim
  | .ok (.ret u), ⟨v, H', o1, o2, o3, o4, rv, q⟩ =>
    have q' : v = V.bl true := q
    rw [q'] at rv
    have ru : u = Value.bool true := rv
    refine ⟨by rw [ru], OldK.of_keep fun b o e => ?_, o1, o2⟩
    rcases on b with z | ⟨ob, xs, z⟩
    · exact o3.keep b o e z (fun y => (by cases (show b ∈ ([] : List Addr) from y))) (fun y => (by cases y))
    · have f1 := (hok b _ z).1
      have f2 := (o4 b _ (o3.frzs b ob _ z)).1
      rw [e] at f1
      rw [f2]
      exact f1.symm

/-- the law's promise at its call -/
theorem lawG (KX : K.In S.heap) (nsG : S.heap.Ns mainGlobals mg) (nsB : S.heap.Ns builtinsNs mb) (bb : ∀ y : Str, y ≠ "__name__" → mb y = bootBuiltins y) (nl : S.heap.NoLimit) (gg : S.gens = #[]) (at_ : S.heap.get? sc = some (scrO us)) (hi : IntsAre us ns) (hl : ns.length ≤ 63) (hr : Room k callerA)
    (F : ∀ b : Heap, K.In b → b.Ns mainGlobals mg → FnG P w K mg b k fn fd [x] (spLaw K)) (bnd : ∀ (s : Shared) (u : Value), BindsTo s fd ⟨[u], []⟩ [(x, u)]) :
    codeAny (model P w) callerA (.call (.ref fn) ⟨[.ref sc], []⟩) (fun r s' => r = .ok (.ret (.bool true)) ∧ OldK S.heap s'.heap ∧ s'.os = S.os ∧ AllBare s'.gens) S := by
  have hz : ns.length ≤ sizeLine := by rw [sizeLine_eq]; omega
  have e : us.length = ns.length := hi.length
  cases q : K.lookup sc with
  | some o =>
    have z := KX sc o q
    rw [at_] at z
    have eo : scrO us = o := Option.some.inj z
    subst eo
    exact lawG_core KX nsG nsB bb nl gg at_ hr F bnd (fun _ => none) (fun _ => .inl rfl) (fun b u h => nomatch (show (none : Option HO) = some u from h)) (fun b u h => nomatch (show (none : Option HO) = some u from h)) (fun u h => nomatch (show (none : Option HO) = some u from h))
      ⟨sc, ns, rfl, .inr ⟨_, us.toArray, _, q, rfl, rfl, rfl, by rw [List.size_toArray, e]; exact hz, by simpa using vals_ints hi⟩, hl, fun _ => rfl⟩
  | none =>
    have hx : ∀ b u, (fun b => if b = sc then some (HO.frz (scrO us) (.lst (ns.map V.int))) else none) b = some u → b = sc ∧ u = HO.frz (scrO us) (.lst (ns.map V.int)) := fun b u h => by
      by_cases c : b = sc
      · have h' := (if_pos c).symm.trans h
        exact ⟨c, (Option.some.inj h').symm⟩
      · have h' := (if_neg c).symm.trans h
        cases h'
    refine lawG_core KX nsG nsB bb nl gg at_ hr F bnd (fun b => if b = sc then some (.frz (scrO us) (.lst (ns.map V.int))) else none) (fun b => ?_) (fun b u h => ?_) (fun b u h => (hx b u h).1) (fun _ _ => q) ⟨sc, ns, rfl, .inl (.inr ⟨scrO us, if_pos rfl⟩), hl, fun _ => rfl⟩
    · by_cases c : b = sc
      · exact .inr ⟨_, _, if_pos c⟩
      · exact .inl (if_neg c)
    · obtain ⟨rfl, rfl⟩ := hx b u h
      exact ⟨at_, by rw [List.length_map]; exact hz, us, _, vals_ints hi, at_⟩
end
/-- a law whose def has such a promise -/
theorem walkG {l : PySem.W.OpenLaw} {k : Nat} {q : Program} {loose : List Str} {XP : (Str → Option Value) → Heap → Prop} {YP : World → Heap → Prop} {d : DefRec} {x : Str}
    (hn : l.most = some 63) (hdf : d.params.defaults = []) (hr : Room k callerA)
    (F : ∀ (w : World) (mg : Str → Option Value) (fa : Addr) (h : Heap), YP w h → h.Ns mainGlobals mg → mg d.name = some (.ref fa) →
      ∃ (K : PySem.W.Frag) (fd : FuncData), K.In h ∧ (∀ (s : Shared) (u : Value), BindsTo s fd ⟨[u], []⟩ [(x, u)]) ∧ ∀ base : Heap, K.In base → base.Ns mainGlobals mg → FnG l.prog w K mg base k fa fd [x] (spLaw K)) :
    PySem.W.WalkO q loose XP YP l.row.toRowW d [] (fun f vs => PySem.call f vs) := by
  refine Att.attach_call hn hdf fun w s₀ S mg mb fa o pm cd doc a vs ns G Y ho hd hcd hmg hobj hints hlen hg => ?_
  obtain ⟨K, fd, KX, hb, hF⟩ := F w mg fa _ Y G.T.g hmg
  exact lawG KX G.T.g G.T.b G.T.builtins G.T.nolimit hg hobj hints hlen hr hF hb
end Dt

/-! DtN: the draws' bodies, read. -/
namespace Dt
open PySem PySem.Spec PyProof.Rows L2
section
variable {X : Cx} {E : XK} {k : Nat} {q : Bool}
theorem beg_body {elt tg iter e k1 k2 k3 k4 v1 v3 v4 : Expr} {ifs : List Expr} {scope : Scope} {own : List (Str × Nat)} {y : Str} {py pos spos p1 p2 : Pos} (g : Gx X E k q) (h : DLc X E elt tg iter ifs scope own wLarge)
    (h2 : DF X E e (wCB listW (wCons (wVar 0) wNil))) (q1 : PE X k1 (tC (.str "large"))) (q2 : PE X k2 (tC (.str "cells"))) (q3 : PE X k3 (tC (.str "rest"))) (q4 : PE X k4 (tC (.str "turn"))) (w1 : PE X v1 (tVar 1)) (w3 : PE X v3 (tC (.int 0))) (w4 : PE X v4 (tC (.int 0)))
    (hsw : swapsWith (.ListComp elt [⟨tg, iter, ifs, 0⟩] scope pos) (some (.Name y py)) spos.line X.env = pure true) (hy : X.N[1]? = some y := by rfl) (hyl : X.env.scope.names.lookup y = some .local := by rfl) (hs : ∀ x, foldedSetIterable iter X.env x = pure x := by intro _; rfl) :
    ∃ tl tc, PSs X [.Assign [.Name y py] (.ListComp elt [⟨tg, iter, ifs, 0⟩] scope pos) spos, .Return (some (.Dict [some k1, some k2, some k3, some k4] [v1, e, v3, v4] p1)) p2] (tBeg tl tc) ∧ SF X.K E tl wLarge ∧ SF X.K E tc (wCB listW (wCons (wVar 0) wNil)) := by
  obtain ⟨ti, tg', tt, te, pi, ok, pg, pt, pe, s1⟩ := h.ex
  obtain ⟨tc, pc, s2⟩ := h2
  exact ⟨_, _, pss_cons (ps_setLc g.calm g.nd hy hyl hsw pi ok pg pt pe hs) (pss_one (ps_ret (pe_disp (pps_cons q1 w1 (pps_cons q2 pc (pps_cons q3 w3 (pps_cons q4 w4 pps_nil)))) rfl rfl (by simp) (show 4 ≤ 15 by decide)))), s1, s2⟩
theorem mix_body {o i e : Expr} {rest : List Stmt} {p1 p2 : Pos} (g : Gx X E k q) (ho : PE X o (tVar 0)) (hi : PE X i (tC (.str "turn"))) (he : DE X E e wTurn) (hr : DSs X E rest wMix) (hs : swapsWith e (some (.Subscript o i p1)) p2.line X.env = pure false := by rfl) :
    ∃ t1 t2, PSs X (.Assign [.Subscript o i p1] e p2 :: rest) (tSeq (sDPut (tVar 0) (tC (.str "turn")) t1) t2) ∧ SE X.K E t1 wTurn ∧ SS X.K E t2 wMix := by
  obtain ⟨t1, pa, s1⟩ := he
  obtain ⟨t2, pb, s2⟩ := hr
  exact ⟨t1, t2, pss_cons (ps_dput g.u1 ho hi pa hs) pb, s1, s2⟩
theorem take_body {j : Nat} {f : Addr} {fd : FuncData} {ps : List Str} {c c2 o i o2 i2 z m1 e2 e3 e4 lo li : Expr} {x y : Str} {p1 p2 p3 p4 p5 p6 p7 p8 p9 p10 p11 p12 p13 p14 : Pos} (g : Gx X E k q) (F : FnOk X.prog X.w X.K X.mg X.base (L2.CX X.prog X.w) j f fd ps spMix) (hm : X.mg x = some (.ref f)) (hk : PySem.W.keepIn X.K (.ref f) = true) (hb : Binds X.K fd ps [])
    (hc : DT X E c (wB (wOp eqW wRest (wC (.int 0))))) (hl : DT X E c2 (wB (wOp neW (wOp ixW (wVar 0) (wC (.str "large"))) (wLst wNil)))) (ho : PE X o (tVar 0)) (hi : PE X i (tC (.str "rest"))) (hlo : PE X lo (tVar 0)) (hli : PE X li (tC (.str "large"))) (hz : PE X z (tC (.int 0))) (ha : PE X m1 (tVar 0))
    (h2 : DE X E e2 (wOp modW (wInt wRest) (wVar 1))) (ho2 : PE X o2 (tVar 0)) (hi2 : PE X i2 (tC (.str "rest"))) (h3 : DE X E e3 (wOp fdivW wRest (wVar 1))) (h4 : PE X e4 (tVar 2)) (hj : j ≤ k := by decide) (hg : Gl X x := by rfl) (hN : X.N[2]? = some y := by rfl) (hx : Loc X.env.scope y := by first | exact Or.inl rfl | exact Or.inr rfl)
    (hsw1 : swapsWith (.IfExp c2 (.Call (.Attribute (.Subscript lo li p1) "pop" p2) [z] [] p3) (.Call (.Name x p4) [m1] [] p5) p6) (some (.Subscript o i p7)) p8.line X.env = pure false := by rfl) (hsw2 : swapsWith e2 (some (.Name y p9)) p10.line X.env = pure false := by rfl) (hsw3 : swapsWith e3 (some (.Subscript o2 i2 p11)) p12.line X.env = pure false := by rfl)
    (hf : X.fn y = true ∨ X.env.scope.names.lookup y = some .local := by first | exact .inl rfl | exact .inr rfl | assumption) (hix : PlainIx li := by intro _ _; rfl) (hdb : (x == ("__debug__" : Str)) = false := by decide)
    (hbase : attributeBase (.Subscript lo li p1) "pop" X.env (eval (.Subscript lo li p1) X.env) = eval (.Subscript lo li p1) X.env := by rfl)
    (hfew : ((backTo p3 (starEach [z] X.env)).all (fun x => !x.1) && (backToKw p3 (keywordEach [] X.env)).all (fun x => x.1.isSome) && decide (([z] : List Expr).length + ([] : List Keyword).length + (if ([] : List Keyword).isEmpty then 0 else 1) < 30)) = true := by rfl)
    (hline : (p2.endLine == p3.line) = true := by rfl) (hsz : starEach [z] X.env = (false, eval z X.env) :: starEach [] X.env := by rfl) (hsm : starEach [m1] X.env = (false, eval m1 X.env) :: starEach [] X.env := by rfl) :
    ∃ tc tl t2 t3, PSs X [.If c [.Assign [.Subscript o i p7] (.IfExp c2 (.Call (.Attribute (.Subscript lo li p1) "pop" p2) [z] [] p3) (.Call (.Name x p4) [m1] [] p5) p6) p8] [] p13, .Assign [.Name y p9] e2 p10, .Assign [.Subscript o2 i2 p11] e3 p12, .Return (some e4) p14] (tTake X.K E tc tl t2 t3) ∧
      ST X.K E tc (wB (wOp eqW wRest (wC (.int 0)))) ∧ ST X.K E tl (wB (wOp neW (wOp ixW (wVar 0) (wC (.str "large"))) (wLst wNil))) ∧ SE X.K E t2 (wOp modW (wInt wRest) (wVar 1)) ∧ SE X.K E t3 (wOp fdivW wRest (wVar 1)) := by
  obtain ⟨tc, pc, sc⟩ := hc
  obtain ⟨tl, pl, sl⟩ := hl
  obtain ⟨t2, pt2, s2⟩ := h2
  obtain ⟨t3, pt3, s3⟩ := h3
  refine ⟨tc, tl, t2, t3, ?_, sc, sl, s2, s3⟩
  refine pss_cons (ps_if pc (pss_one (ps_dput g.u1 ho hi (pe_ifExp pl (pe_bm PySem.F.plainAttrs_list PySem.F.slot_list_pop PySem.F.type_list_pop mt_popAt (pe_ix (ix_seq.or (ix_dct g.u1)) hlo hli hix) (pa_cons hz pa_nil hsz) hbase hfew hline hsz rfl)
    (pe_call F (g.room.mono hj) hg hm hk hb .nil g.pass (pa_cons ha pa_nil hsm) hdb hsm rfl)) hsw1)) pss_nil) (pss_cons (ps_set g.nd hN hx pt2 hsw2 hf) (pss_cons (ps_dput g.u1 ho2 hi2 pt3 hsw3) (pss_one (ps_ret h4))))
theorem law_body {j : Nat} {f : Addr} {fd : FuncData} {ps : List Str} {m1 : Expr} {rest : List Stmt} {w2 : WS} {x y : Str} {p1 p2 p3 p4 : Pos} (g : Gx X E k q) (F : FnOk X.prog X.w X.K X.mg X.base (L2.CX X.prog X.w) j f fd ps (spBeg X.K)) (hm : X.mg x = some (.ref f)) (hk : PySem.W.keepIn X.K (.ref f) = true) (hb : Binds X.K fd ps [])
    (ha : PE X m1 (tVar 0)) (hr : DSs X E rest w2) (hj : j ≤ k := by decide) (hg : Gl X x := by rfl) (hN : X.N[1]? = some y := by rfl) (hx : Loc X.env.scope y := by first | exact Or.inl rfl | exact Or.inr rfl) (hsw : swapsWith (.Call (.Name x p1) [m1] [] p2) (some (.Name y p3)) p4.line X.env = pure false := by rfl)
    (hf : X.fn y = true ∨ X.env.scope.names.lookup y = some .local := by first | exact .inl rfl | exact .inr rfl | assumption) (hdb : (x == ("__debug__" : Str)) = false := by decide) (hsm : starEach [m1] X.env = (false, eval m1 X.env) :: starEach [] X.env := by rfl) :
    ∃ t2, PSs X (.Assign [.Name y p3] (.Call (.Name x p1) [m1] [] p2) p4 :: rest) (tSeq (tAsg (tCall (spBeg X.K) [] E (tCons (tVar 0) tNil)) (gName 1)) t2) ∧ SS X.K E t2 w2 := by
  obtain ⟨t2, p2, s2⟩ := hr
  exact ⟨t2, pss_cons (ps_set g.nd hN hx (pe_call F (g.room.mono hj) hg hm hk hb .nil g.pass (pa_cons ha pa_nil hsm) hdb hsm rfl) hsw hf) p2, s2⟩
end
end Dt

/-! DtO: the built-in words, one by one. -/
namespace Dt
open PySem PySem.Spec PyProof.Rows L2
section
variable {X : Cx} {E : XK} {k : Nat} {q : Bool} {e e2 : Expr} {w w2 : WE} {p pos : Pos}
theorem de_len (h : X.mg "len" = none) (ha : DE X E e w) (hg : Gl X "len" := by rfl) (he : starEach [e] X.env = (false, eval e X.env) :: starEach [] X.env := by rfl) : DE X E (.Call (.Name "len" p) [e] [] pos) (wCB lenW (wCons w wNil)) :=
  de_callB (call_len.or call_lenD) cld_len h rfl (da_cons ha da_nil he) hg (by decide) (by decide) he rfl
theorem de_toInt (h : X.mg "int" = none) (ha : DE X E e w) (hg : Gl X "int" := by rfl) (he : starEach [e] X.env = (false, eval e X.env) :: starEach [] X.env := by rfl) : DE X E (.Call (.Name "int" p) [e] [] pos) (wInt w) :=
  de_callTy call_int1 cld_int h rfl (da_cons ha da_nil he) hg (by decide) (by decide) he rfl
theorem de_abs (h : X.mg "abs" = none) (ha : DE X E e w) (hg : Gl X "abs" := by rfl) (he : starEach [e] X.env = (false, eval e X.env) :: starEach [] X.env := by rfl) : DE X E (.Call (.Name "abs" p) [e] [] pos) (wCB absW (wCons w wNil)) :=
  de_callB call_abs cld_abs h rfl (da_cons ha da_nil he) hg (by decide) (by decide) he rfl
def minI (i j : Int) : Int := if j < i then j else i
def maxI (i j : Int) : Int := if j > i then j else i
theorem de_min (g : Gx X E k q) (h : X.mg "min" = none) (ha : DE X E e w) (hb : DE X E e2 w2) (hg : Gl X "min" := by rfl) (he : starEach [e, e2] X.env = (false, eval e X.env) :: starEach [e2] X.env := by rfl) (he2 : starEach [e2] X.env = (false, eval e2 X.env) :: starEach [] X.env := by rfl)
    (hpl : (backTo pos (starEach [e2] X.env)).any (·.1) = false := by rfl) : DE X E (.Call (.Name "min" p) [e, e2] [] pos) (wCB (ii2 minI) (wCons w (wCons w2 wNil))) :=
  de_callB (call_min2 g.calm) (cld_ii (f := minI)) h rfl (da_cons ha (da_cons hb da_nil he2) he) hg (by decide) (by decide) he hpl
theorem de_max (g : Gx X E k q) (h : X.mg "max" = none) (ha : DE X E e w) (hb : DE X E e2 w2) (hg : Gl X "max" := by rfl) (he : starEach [e, e2] X.env = (false, eval e X.env) :: starEach [e2] X.env := by rfl) (he2 : starEach [e2] X.env = (false, eval e2 X.env) :: starEach [] X.env := by rfl)
    (hpl : (backTo pos (starEach [e2] X.env)).any (·.1) = false := by rfl) : DE X E (.Call (.Name "max" p) [e, e2] [] pos) (wCB (ii2 maxI) (wCons w (wCons w2 wNil))) :=
  de_callB (call_max2 g.calm) (cld_ii (f := maxI)) h rfl (da_cons ha (da_cons hb da_nil he2) he) hg (by decide) (by decide) he hpl
theorem df_list (g : Gx X E k q) (h : X.mg "list" = none) (ha : DE X E e w) (hg : Gl X "list" := by rfl) (he : starEach [e] X.env = (false, eval e X.env) :: starEach [] X.env := by rfl) : DF X E (.Call (.Name "list" p) [e] [] pos) (wCB listW (wCons w wNil)) :=
  df_callTy (call_list_of.or (call_listD g.calm)) clf_list h rfl (da_cons ha da_nil he) hg (by decide) (by decide) he rfl
theorem de_tuple (h : X.mg "tuple" = none) (ha : DE X E e w) (hg : Gl X "tuple" := by rfl) (he : starEach [e] X.env = (false, eval e X.env) :: starEach [] X.env := by rfl) : DE X E (.Call (.Name "tuple" p) [e] [] pos) (wCB tupleW (wCons w wNil)) :=
  de_callTy call_tuple_of cld_tuple h rfl (da_cons ha da_nil he) hg (by decide) (by decide) he rfl
theorem df_sorted (h : X.mg "sorted" = none) (ha : DE X E e w) (hg : Gl X "sorted" := by rfl) (he : starEach [e] X.env = (false, eval e X.env) :: starEach [] X.env := by rfl) : DF X E (.Call (.Name "sorted" p) [e] [] pos) (wCB sortSW (wCons w wNil)) :=
  df_callB cr_sortS clf_sortS h rfl (da_cons ha da_nil he) hg (by decide) (by decide) he rfl
theorem df_dictOf (h : X.mg "dict" = none) (ha : DE X E e w) (hg : Gl X "dict" := by rfl) (he : starEach [e] X.env = (false, eval e X.env) :: starEach [] X.env := by rfl) : DF X E (.Call (.Name "dict" p) [e] [] pos) (wCB dictW (wCons w wNil)) :=
  df_callTy call_dictD clf_dict h rfl (da_cons ha da_nil he) hg (by decide) (by decide) he rfl
theorem de_all (g : Gx X E k q) (h : X.mg "all" = none) (ha : DE X E e w) (hg : Gl X "all" := by rfl) (he : starEach [e] X.env = (false, eval e X.env) :: starEach [] X.env := by rfl) : DE X E (.Call (.Name "all" p) [e] [] pos) (wCB allW (wCons w wNil)) :=
  de_callB (cr_all g.calm) cld_all h rfl (da_cons ha da_nil he) hg (by decide) (by decide) he rfl
theorem de_any (g : Gx X E k q) (h : X.mg "any" = none) (ha : DE X E e w) (hg : Gl X "any" := by rfl) (he : starEach [e] X.env = (false, eval e X.env) :: starEach [] X.env := by rfl) : DE X E (.Call (.Name "any" p) [e] [] pos) (wCB anyW (wCons w wNil)) :=
  de_callB (cr_any g.calm) cld_any h rfl (da_cons ha da_nil he) hg (by decide) (by decide) he rfl
end
end Dt

/-! DtP: repr. -/
namespace Dt
open PySem PySem.Spec PyProof.Rows L2

def keyPy : L2.Key → PyData
  | .inl i => .int i
  | .inr s => .str s
mutual
/-- a datum, as it is told -/
def tell : D → PyData
  | .non => .none
  | .bl b => .bool b
  | .int i => .int i
  | .str s => .str s
  | .lst xs => .list (tellL xs)
  | .tup xs => .tuple (tellL xs)
  | .dct kvs => .dict (tellM kvs)
  | .scr ns => .list (ns.map .int)
  | _ => .none
def tellL : List D → List PyData
  | [] => []
  | d :: ds => tell d :: tellL ds
def tellM : List (L2.Key × D) → List (PyData × PyData)
  | [] => []
  | (k, d) :: ds => (keyPy k, tell d) :: tellM ds
end
mutual
/-- it can be told -/
def tells : D → Bool
  | .lst xs => tellsL xs
  | .tup xs => tellsL xs
  | .dct kvs => tellsM kvs
  | .ins _ _ => false
  | .exc _ _ => false
  | .obj _ => false
  | _ => true
def tellsL : List D → Bool
  | [] => true
  | d :: ds => tells d && tellsL ds
def tellsM : List (L2.Key × D) → Bool
  | [] => true
  | (_, d) :: ds => tells d && tellsM ds
end
/-- the written part knows the table of modules -/
def KSm (K : PySem.W.Frag) : Prop := ∃ o, K.lookup sysModules = some o ∧ o.cls = .type "dict"
theorem key_reads {P : Program} {w : World} {h : Heap} : ∀ {es : List DictEntry} {vs : List (L2.Key × Value)}, Pairs (mixKind P w) es vs → ReadsAll h (es.map (·.key)) (vs.map fun kv => keyPy kv.1) []
  | _, _, .nil => .nil
  | e :: es, (k, u) :: vs, .cons h1 h2 r => by
    have r1 := key_reads (h := h) r
    refine ReadsAll.cons (as := []) (bs := []) ?_ r1
    cases k with
    | inl i =>
      obtain ⟨t, z⟩ := Value.isInt_shape (show Value.isInt i e.key = true from h1)
      show Reads h e.key (.int i) []
      rw [z]
      exact Reads.int i t
    | inr x =>
      obtain ⟨t, z⟩ := Value.isStrOf_shape (show Value.isStrOf x e.key = true from h1)
      show Reads h e.key (.str x) []
      rw [z]
      exact Reads.str x t
theorem val_pairs {P : Program} {w : World} : ∀ {es : List DictEntry} {vs : List (L2.Key × Value)}, Pairs (mixKind P w) es vs → es.map (·.val) = vs.map (·.2)
  | _, _, .nil => rfl
  | e :: es, (k, u) :: vs, .cons h1 h2 r => by
    rw [List.map_cons, List.map_cons, val_pairs r, h2]
theorem kv_split : ∀ {kvs : List (L2.Key × V)} {vs : List (L2.Key × Value)}, KV kvs vs → vs.map (fun kv => keyPy kv.1) = kvs.map (fun kv => keyPy kv.1) ∧ Vals (kvs.map (·.2)) (vs.map (·.2))
  | _, _, .nil => ⟨rfl, .nil⟩
  | _, _, .cons h r => by
    obtain ⟨a, b⟩ := kv_split r
    exact ⟨by rw [List.map_cons, List.map_cons, a, h.1], .cons h.2 b⟩
section
variable {X : Cx} {pins : List (Addr × Obj)} {σ : L2.St} {H J : Hp} {s : Shared}
theorem not_sm (KM : KSm X.K) (I : Inv X pins σ H s) {a : Addr} {o : Obj} (h : s.heap.get? a = some o) (c : o.cls = .type "list") : a ≠ sysModules := fun z => by
  obtain ⟨u, h1, h2⟩ := KM
  have := I.kIn _ _ h1
  rw [← z, h] at this
  cases this
  rw [h2] at c
  exact absurd c (by decide)
theorem ints_reads {h : Heap} : ∀ {ns : List Int} {us : List Value}, Vals (ns.map V.int) us → ReadsAll h us (ns.map .int) []
  | [], _, .nil => .nil
  | n :: ns, _, .cons r rr => by
    obtain ⟨t, rfl⟩ := r
    exact ReadsAll.cons (as := []) (bs := []) (Reads.int n t) (ints_reads rr)
theorem tellM_fst : ∀ {kvs : List (L2.Key × V)} {ds : List (L2.Key × D)} {K : PySem.W.Frag}, RepM K J kvs ds → (tellM ds).map (·.1) = kvs.map fun kv => keyPy kv.1
  | _, _, _, .nil => rfl
  | _, _, _, .cons _ r => by
    rw [tellM, List.map_cons, List.map_cons, tellM_fst r]
mutual
theorem Rep.reads (KM : KSm X.K) (I : Inv X pins σ H s) (x : Le J H) : ∀ {d : D} {v : V} {u : Value}, Rep X.K J v d → RelV v u → tells d = true → ∃ as, Reads s.heap u (tell d) as ∧ sysModules ∉ as
  | _, _, _, .non, r, _ => by
    cases r
    exact ⟨[], Reads.none, by simp⟩
  | _, _, _, .bl b, r, _ => by
    cases r
    exact ⟨[], Reads.bool b, by simp⟩
  | _, _, _, .int i, r, _ => by
    obtain ⟨t, rfl⟩ := r
    exact ⟨[], Reads.int i t, by simp⟩
  | _, _, _, .str y, r, _ => by
    obtain ⟨t, rfl⟩ := r
    exact ⟨[], Reads.str y t, by simp⟩
  | _, _, _, .lst h rs, r, t => by
    cases r
    obtain ⟨its, rv, ⟨o, n, ho, hc, _, hd⟩, _⟩ := I.list (xs := _) (.inl (.inl (x _ _ h)))
    obtain ⟨as, hr, hn⟩ := RepL.reads KM I x rs rv t
    refine ⟨_, Reads.list ho hc hd hr, ?_⟩
    rw [List.mem_cons, not_or]
    exact ⟨fun z => not_sm KM I ho hc z.symm, hn⟩
  | _, _, _, .tup h rs, r, t => by
    cases r
    obtain ⟨its, rv, ⟨o, ho, hc, n, hd⟩, _⟩ := I.tuple (x.sqT h)
    obtain ⟨as, hr, hn⟩ := RepL.reads KM I x rs rv t
    exact ⟨_, Reads.tuple ho hc hd hr, hn⟩
  | _, _, _, .dct h rs, r, t => by
    cases r
    obtain ⟨_, hm, vs, kv, o, es, ep, ho, hx, hd, _, pr, _⟩ := dk_of I.hok (x _ _ h)
    obtain ⟨k1, k2⟩ := kv_split kv
    obtain ⟨as, hr, hn⟩ := RepM.reads KM I x rs k2 t
    have kr := key_reads (h := s.heap) pr
    rw [k1, ← tellM_fst rs] at kr
    rw [← val_pairs pr] at hr
    refine ⟨_, Reads.dict ho hx.1 hd kr hr, ?_⟩
    simp only [List.cons_append, List.nil_append, List.mem_cons, not_or]
    exact ⟨fun z => by rw [← z] at hm; simp at hm, hn⟩
  | _, _, _, .scr h, r, _ => by
    cases r
    obtain ⟨its, rv, ⟨o, n, ho, hc, _, hd⟩, _⟩ := I.list (x.sqL h)
    refine ⟨_, Reads.list ho hc hd (ints_reads rv), ?_⟩
    rw [List.mem_cons, not_or]
    exact ⟨fun z => not_sm KM I ho hc z.symm, by simp⟩
  | _, _, _, .ins h rs, r, t => by simp [tells] at t
  | _, _, _, .exc0 h p, r, t => by simp [tells] at t
  | _, _, _, .exc1 h p g rs, r, t => by simp [tells] at t
  | _, _, _, .obj v, r, t => by simp [tells] at t
theorem RepL.reads (KM : KSm X.K) (I : Inv X pins σ H s) (x : Le J H) : ∀ {ds : List D} {vs : List V} {us : List Value}, RepL X.K J vs ds → Vals vs us → tellsL ds = true → ∃ as, ReadsAll s.heap us (tellL ds) as ∧ sysModules ∉ as
  | _, _, _, .nil, .nil, _ => ⟨[], .nil, by simp⟩
  | _, _, _, .cons h r, .cons g q, t => by
    obtain ⟨t1, t2⟩ := Bool.and_eq_true_iff.mp (show (tells _ && tellsL _) = true from t)
    obtain ⟨as, h1, h2⟩ := Rep.reads KM I x h g t1
    obtain ⟨bs, h3, h4⟩ := RepL.reads KM I x r q t2
    exact ⟨_, .cons h1 h3, by rw [List.mem_append, not_or]; exact ⟨h2, h4⟩⟩
theorem RepM.reads (KM : KSm X.K) (I : Inv X pins σ H s) (x : Le J H) : ∀ {ds : List (L2.Key × D)} {vs : List (L2.Key × V)} {us : List Value}, RepM X.K J vs ds → Vals (vs.map (·.2)) us → tellsM ds = true → ∃ as, ReadsAll s.heap us ((tellM ds).map (·.2)) as ∧ sysModules ∉ as
  | _, _, _, .nil, .nil, _ => ⟨[], .nil, by simp⟩
  | _, _, _, .cons h r, .cons g q, t => by
    obtain ⟨t1, t2⟩ := Bool.and_eq_true_iff.mp (show (tells _ && tellsM _) = true from t)
    obtain ⟨as, h1, h2⟩ := Rep.reads KM I x h g t1
    obtain ⟨bs, h3, h4⟩ := RepM.reads KM I x r q t2
    exact ⟨_, .cons h1 h3, by rw [List.mem_append, not_or]; exact ⟨h2, h4⟩⟩
end
end
/-- what repr gives -/
def told (d : D) : Str := (tell d).shown
def reprW : WC
  | [d], P => (tells d = true ∧ (tell d).showable = true ∧ (tell d).depth ≤ 40 ∧ (told d).length ≤ sizeLine) ∧ P (.str (told d))
  | _, _ => False
def rRepr (K : PySem.W.Frag) : List V → Hp → VK → Prop := fun xs H Q => ∃ (v : V) (d : D) (J : Hp), xs = [v] ∧ Le J H ∧ Rep K J v d ∧ (tells d = true ∧ (tell d).showable = true ∧ (tell d).depth ≤ 40 ∧ (told d).length ≤ sizeLine) ∧ Q (.str (told d)) H
theorem cr_repr {X : Cx} (KM : KSm X.K) (hg : X.A.guards = some []) (hu : X.A.units + 64 < cLine) : CallR X (.builtin "repr") (rRepr X.K) := by
  intro pins s σ H xs us Q I r h
  obtain ⟨v, d, J, rfl, x, rp, ⟨t1, t2, t3, t4⟩, q⟩ := h
  obtain ⟨u, rfl, ru⟩ := r.one
  have big : ∀ a, u = .ref a → wpAny (model X.prog X.w) X.A (call (.builtin "repr") [u]) (EP X pins σ Q) X.xe s := fun a e => by
    subst e
    obtain ⟨as, hr, hn⟩ := Rep.reads KM I x rp ru t1
    exact repr_of_reads' hr t2 (fun _ => hn) hg (by omega) (fun _ _ z => z) (fun h' t tk k => ⟨.str (told d), H, I.kept (t' := tk) k, ⟨t, rfl⟩, q⟩) t4
  cases rp with
  | non =>
    cases ru
    exact PySem.P.repr_of_none ⟨.str (told .non), H, I.tok _, ⟨_, rfl⟩, q⟩
  | bl b =>
    cases ru
    exact PySem.P.repr_of_bool ⟨.str (told (.bl b)), H, I.tok _, ⟨_, rfl⟩, q⟩
  | int i =>
    obtain ⟨t, rfl⟩ := ru
    exact PySem.P.repr_of_int (of_decide_eq_true t2) ⟨.str (told (.int i)), H, I.tok _, ⟨_, rfl⟩, q⟩
  | str y =>
    obtain ⟨t, rfl⟩ := ru
    exact PySem.P.repr_of_str ⟨.str (told (.str y)), H, I.tok _, ⟨_, rfl⟩, q⟩ t4
  | lst _ _ => exact big _ (by cases ru; rfl)
  | tup _ _ => exact big _ (by cases ru; rfl)
  | dct _ _ => exact big _ (by cases ru; rfl)
  | scr _ => exact big _ (by cases ru; rfl)
  | _ => simp [tells] at t1
theorem cld_repr {K : PySem.W.Frag} : ClD K (rRepr K) reprW := fun Z n I H xs ds P Q w r hf hq => by
  cases r with
  | nil => exact hf.elim
  | cons r rr =>
    cases rr with
    | cons _ _ => exact hf.elim
    | nil => exact ⟨_, _, I, rfl, w.ih, r, hf.1, hq _ _ I H w.refl (.str _) hf.2⟩
section
variable {X : Cx} {E : XK} {k : Nat} {e : Expr} {w : WE} {p pos : Pos}
theorem de_repr (g : Gx X E k true) (KM : KSm X.K) (h : X.mg "repr" = none) (ha : DE X E e w) (hg : Gl X "repr" := by rfl) (he : starEach [e] X.env = (false, eval e X.env) :: starEach [] X.env := by rfl) : DE X E (.Call (.Name "repr" p) [e] [] pos) (wCB reprW (wCons w wNil)) :=
  de_callB (cr_repr KM (g.gd rfl) g.u64) cld_repr h rfl (da_cons ha da_nil he) hg (by decide) (by decide) he rfl
end
end Dt

/-! DtQ: errors held as values: made, asked for their class, their fields read. -/
namespace PySem.W
open PySem PySem.Spec PySem.Calls PyProof.Rows
section
variable {prog : Program} {w : World} {A : Around} {E : Value → Shared → Prop} {s : Shared} {K : Frag} {x D : Addr} {ox : Obj} {od : Option Obj}
/-- an error's __class__, whatever dict it has -/
theorem dt_clsE {Q : Option Value → Shared → Prop} (T : L2.ExcC K D) (hf : findObj K D od "__class__" = some (.bind (.builtin "getset_descriptor.__get__") (.builtin "object.__class__"))) (X : K.In s.heap) (I : InstAt s.heap x ox D od) (h : Q (some (.ref D)) { s with toks := s.toks + 1 }) :
    wpAny (model prog w) A (getAttr? (.ref x) "__class__") Q E s := by
  obtain ⟨h0, h1, h2, t, h3⟩ := s
  have k0 := I.type (M := model prog w)
  have k1 := looks_findIn (M := model prog w) X T.hg
  have k2 := looks_findIn (M := model prog w) X T.hk
  have k3 := looks_find (M := model prog w) X I hf
  have k4 : Looks (model prog w) h0 (isInstance (.ref x) (.type "BaseException")) true := k0.andThen (looks_subIn X T.hs)
  have b1 : (false && onTheHeap (Value.builtin "BaseException.__getattribute__")) = false := rfl
  have b2 : (onTheHeap (Value.ref D) && Value.builtin "BaseException.__getattribute__" == Value.builtin "object.__getattribute__") = false := by
    have : (Value.builtin "BaseException.__getattribute__" == Value.builtin "object.__getattribute__") = false := by decide +kernel
    rw [this]; rfl
  unfold getAttr? getAttrBy? getAttrBy
  refine wpAny_bind (wpAny_mkText (wpAny_bind (wpAny_attempt (wpAny_holding (wpAny_bind (k0.at (wpAny_bind (k1.at ?_))))))))
  show wpAny _ _ (if (onTheHeap (Value.ref D) && Value.builtin "BaseException.__getattribute__" == Value.builtin "object.__getattribute__") = true then _ else _) _ _ _
  rw [b2, if_neg Bool.false_ne_true]
  unfold getAttrByItsOwn hookBefore
  refine wpAny_bind ?_
  rw [if_pos (show onTheHeap (Value.ref D) = true from rfl)]
  refine k2.at (wpAny_bind (wpAny_attempt (wpAny_holding ?_)))
  unfold callGetattribute
  rw [b1, if_neg Bool.false_ne_true]
  unfold boundAndCalled
  rw [PySem.F.excAttr_ValueError.ga.bind (.ref x)]
  refine wpAny_bind (wpAny_pure ?_)
  show wpAny _ _ (call (.builtin "BaseException.__getattribute__") [.ref x, .str "__class__" t]) _ _ _
  refine wpAny_call (codeAny_call_builtin PySem.F.excAttr_ValueError.ga.plain PySem.F.entry_bexc_ga (@check_slot (model prog w) _ _ ⟨h0, h1, h2, t + 1, h3⟩ "BaseException.__getattribute__" "BaseException" "__getattribute__" (.ref x) [.str "__class__" t] [] _ (by decide +kernel) (by decide +kernel) k4 (PySem.F.args_bexc_ga (.ref x) (.str "__class__" t)) ?_))
  unfold Builtin.«object.__getattribute__»
  refine wpAny_bind (wpAny_of_eq (a := ((Value.ref x : Value), [Value.str "__class__" t])) (by first | rfl | (simp only [slotArgs]; rfl)) (wpAny_bind (wpAny_pure (wpAny_bind (k0.at (wpAny_bind (k3.at ?_)))))))
  show wpAny _ _ (holding [Value.builtin "object.__class__"] (call (.builtin "getset_descriptor.__get__") [.builtin "object.__class__", .ref x, .ref D]) >>= ret) _ _ _
  refine wpAny_bind (wpAny_holding (wpAny_call (class_get (s := ⟨h0, h1, h2, t + 1, h3⟩) (ox := ox) (od := od) X I T.hm (wpAny_pure ?_))))
  show wpAny _ _ (handedOut (.ref D)) _ _ _
  rw [handedOut_of (v := .ref D) rfl]
  first
    | exact wpAny_pure (wpAny_pure h)
    | exact wpAny_pure h
    | exact wpAny_pure (wpAny_bind (wpAny_pure (wpAny_pure h)))
theorem dt_kitE (T : L2.ExcC K D) (hf : findObj K D od "__class__" = some (.bind (.builtin "getset_descriptor.__get__") (.builtin "object.__class__"))) : KitX K (.ref x) (.ref D) (fun h => InstAt h x ox D od) := by
  obtain ⟨cd, hc, _⟩ := any_some T.hd
  unfold clsIn at hc
  split at hc
  · rename_i c' d' cd' sl' ho
    refine ⟨fun _ _ _ I => I.type, fun _ _ X _ => ?_, fun h tp dd its n sl X htp => ?_, fun X I k => dt_clsE T hf X I k⟩
    · intro A' Q' E' s' k q
      unfold isType loadHead
      exact wpAny_bind (wpAny_loadPart (k _ _ (X _ _ ho)) (wpAny_pure q))
    · refine Bool.eq_false_iff.mpr fun q => ?_
      have e : D = tp := Value.ref.inj (beq_iff_eq.mp q)
      subst e
      have z := (X _ _ ho).symm.trans htp
      cases z
  · cases hc
end
end PySem.W
namespace Dt
open PySem PySem.Spec PyProof.Rows L2
/-- the error object at a, its dict's object -/
theorem excAt_inst {X : Cx} {pins : List (Addr × Obj)} {σ : L2.St} {H : Hp} {s : Shared} {a C : Addr} {φ : Heap → Prop} (I : Inv X pins σ H s) (h : H a = some (.ext φ)) (p : ∀ hp, φ hp → ExcAt hp a C none) : ∃ ox, PySem.W.InstAt s.heap a ox C none := by
  obtain ⟨oe, vs, h1, h2, h3⟩ := p _ (I.hok a _ h).1
  obtain ⟨oc, od, oda, osl⟩ := oe
  obtain ⟨e1, e2⟩ := h2
  dsimp only at e1 e2 h3
  subst e1 e2 h3
  exact ⟨_, h1, rfl, rfl, trivial⟩
theorem excF_ns {X : Cx} {pins : List (Addr × Obj)} {σ : L2.St} {H : Hp} {s : Shared} {dx : Addr} {fs : List (Str × V)} (I : Inv X pins σ H s) (g : ExcF H dx fs) : ∃ mA, s.heap.Ns1 dx mA ∧ ∀ f, RelO (fs.lookup f) (mA f) := by
  rcases g with g | ⟨ψ, g, q⟩
  · exact I.hok dx _ g
  · exact q _ (I.hok dx _ g).1
theorem excAt_inst1 {X : Cx} {pins : List (Addr × Obj)} {σ : L2.St} {H : Hp} {s : Shared} {a C dx : Addr} {fs : List (Str × V)} {φ : Heap → Prop} (I : Inv X pins σ H s) (h : H a = some (.ext φ)) (p : ∀ hp, φ hp → ExcAt hp a C (some dx)) (g : ExcF H dx fs) :
    ∃ (ox od : Obj) (mA : Str → Option Value), PySem.W.InstAt s.heap a ox C (some od) ∧ (∀ n, PySem.W.lookIn n od = some (mA n)) ∧ ∀ f, RelO (fs.lookup f) (mA f) := by
  obtain ⟨oe, vs, h1, h2, h3⟩ := p _ (I.hok a _ h).1
  obtain ⟨mA, hn, hr⟩ := excF_ns I g
  obtain ⟨od, ho, hl⟩ := lookIn_ns hn
  obtain ⟨oc, odd, oda, osl⟩ := oe
  obtain ⟨e1, e2⟩ := h2
  dsimp only at e1 e2 h3
  subst e1 e2 h3
  exact ⟨_, od, mA, ⟨h1, rfl, rfl, ho⟩, hl, hr⟩
/-- an error value of the class at C -/
def ErrV (H : Hp) (v : V) (C : Addr) (fs : List (Str × V)) : Prop := ∃ (a : Addr) (φ : Heap → Prop), v = .ref a ∧ H a = some (.ext φ) ∧ ((fs = [] ∧ ∀ hp, φ hp → ExcAt hp a C none) ∨ ∃ dx, (∀ hp, φ hp → ExcAt hp a C (some dx)) ∧ ExcF H dx fs)
theorem err_rep {K : PySem.W.Frag} {I H : Hp} {v : V} {C : Addr} {ds : List (Str × D)} (x : Le I H) (r : Rep K I v (.exc C ds)) : ∃ fs, ErrV H v C fs ∧ RepF K I fs ds := by
  cases r with
  | exc0 h p => exact ⟨[], ⟨_, _, rfl, x _ _ h, .inl ⟨rfl, p⟩⟩, .nil⟩
  | exc1 h p g r => exact ⟨_, ⟨_, _, rfl, x _ _ h, .inr ⟨_, p, g.mono x⟩⟩, r⟩
/-! ### isinstance -/
def rIsX (K : PySem.W.Frag) : List V → Hp → VK → Prop := fun xs H Q => ∃ (v c : V) (C : Addr) (fs : List (Str × V)) (u : Value) (b : Bool), xs = [v, c] ∧ ErrV H v C fs ∧ ClsV c u ∧ ExcC K C ∧ PySem.W.kitOne K (.ref C) u = some b ∧ Q (.bl b) H
theorem call_isX {X : Cx} : CallR X (.builtin "isinstance") (rIsX X.K) := by
  intro pins s σ H xs us Q I r h
  obtain ⟨v, c, C, fs, u, b, rfl, ⟨a, φ, rfl, ha, hc⟩, cv, T, e, q⟩ := h
  obtain ⟨u1, u2, rfl, r1, r2⟩ := vals2 r
  have e2 := cv.eq r2
  subst e2
  cases (show u1 = Value.ref a from r1)
  have hs : (PySem.W.clsIn X.K C).isSome = true := by
    obtain ⟨cd, hc, _⟩ := PySem.W.any_some T.hd
    rw [hc]
    rfl
  rcases hc with ⟨_, p⟩ | ⟨dx, p, g⟩
  · obtain ⟨ox, J⟩ := excAt_inst I ha p
    exact PySem.W.kia_one (PySem.W.dt_kitE T (PySem.W.findObj_dataN hs T.ha T.hn T.ht)) I.kIn J e (fun z => nomatch z) fun tk => ⟨.bl b, H, I.kept (t' := tk) fun _ _ z => z, rfl, q⟩
  · obtain ⟨ox, od, mA, J, _⟩ := excAt_inst1 I ha p g
    exact PySem.W.kia_one (PySem.W.dt_kitE T (PySem.W.findObj_data hs T.ha T.hn T.ht)) I.kIn J e (fun z => nomatch z) fun tk => ⟨.bl b, H, I.kept (t' := tk) fun _ _ z => z, rfl, q⟩
def isiXW (K : PySem.W.Frag) : WC
  | [.exc C fs, .obj c], P => ExcC K C ∧ ∃ u b, clsD (.obj c) = some u ∧ PySem.W.kitOne K (.ref C) u = some b ∧ P (.bl b)
  | ds, P => isiW K ds P
theorem cld_isX {K : PySem.W.Frag} : ClD K (fun xs H Q => rIsi K xs H Q ∨ rIsX K xs H Q) (isiXW K) := fun Z n I H xs ds P Q w r hf hq => by
  unfold isiXW at hf
  split at hf
  · obtain ⟨T, u, b, h1, h2, h3⟩ := hf
    cases r with
    | cons r1 rr =>
      cases rr with
      | cons r2 rr =>
        cases rr
        obtain ⟨fs, h4, _⟩ := err_rep w.ih r1
        exact .inr ⟨_, _, _, fs, u, b, rfl, h4, cls_rep r2 h1, T, h2, hq _ _ I H w.refl (.bl b) h3⟩
  · exact .inl (cld_isi Z n I H xs _ P Q w r hf hq)
section
variable {X : Cx} {E : XK} {k : Nat} {q : Bool} {e e' : Expr} {es : List Expr} {p pos : Pos} {w : WE} {wa : WA}
theorem de_isx (hm : X.mg "isinstance" = none) (ha : DA X E [e, e'] wa) (hg : Gl X "isinstance" := by rfl) (he : starEach [e, e'] X.env = (false, eval e X.env) :: starEach [e'] X.env := by rfl) (hpl : (backTo pos (starEach [e'] X.env)).any (·.1) = false := by rfl) :
    DE X E (.Call (.Name "isinstance" p) [e, e'] [] pos) (wCB (isiXW X.K) wa) := de_callB (call_isi.or call_isX) cld_isX hm (by decide +kernel) ha hg (by decide) (by decide) he hpl
/-! ### error.f -/
def tErrF (K : PySem.W.Frag) (f : Str) (te : TE) : TE := fun σ H Q => te σ H fun x H1 => ∃ (C : Addr) (fs : List (Str × V)) (v : V), ErrV H1 x C fs ∧ XfC K C ∧ PySem.W.findIn K (.ref C) f = some none ∧ fs.lookup f = some v ∧ Q v H1
theorem pe_errF {te : TE} {f : Str} (he : PE X e te) (hb : attributeBase e f X.env (eval e X.env) = eval e X.env) : PE X (.Attribute e f pos) (tErrF X.K f te) := by
  refine ⟨fun pins s σ H Q I h => attr_of hb (thn (he.run pins s σ H _ I h) fun u s1 ⟨x, H1, I1, rx, C, fs, v, ⟨a, φ, ex, ha, hc⟩, T, hno, l, q⟩ => ?_)⟩
  subst ex
  obtain rfl : u = Value.ref a := rx
  rcases hc with ⟨z, _⟩ | ⟨dx, p, g⟩
  · rw [z] at l
    cases l
  · obtain ⟨ox, od, mA, J, hl, hr⟩ := excAt_inst1 I1 ha p g
    obtain ⟨u, hu, ru⟩ := RelO.some_of (v := v) (o := mA f) (by rw [← l]; exact hr f)
    exact HandSPX.exc_get I1.kIn J T.ga T.gg T.exC (PySem.W.findObj_own T.hdC hno rfl (by rw [hl, hu])) (handed_of ru) ⟨v, H1, I1.tok _, ru, q⟩
def wErrF (K : PySem.W.Frag) (f : Str) (w : WE) : WE := fun c n δ P => w c n δ fun n1 d => match d with
  | .exc C fs => XfC K C ∧ PySem.W.findIn K (.ref C) f = some none ∧ ∃ v, fs.lookup f = some v ∧ P n1 v
  | _ => False
theorem RepF.look {K : PySem.W.Frag} {I : Hp} {f : Str} : ∀ {vs : List (Str × V)} {ds : List (Str × D)} {d : D}, RepF K I vs ds → ds.lookup f = some d → ∃ v, vs.lookup f = some v ∧ Rep K I v d
  | _, _, _, .nil, e => by cases e
  | (g, v) :: vs, (_, c) :: ds, d, .cons h r, e => by
    rw [List.lookup_cons] at e ⊢
    by_cases z : (f == g) = true
    · rw [z] at e ⊢
      cases e
      exact ⟨v, rfl, h⟩
    · have z' : (f == g) = false := by simpa using z
      rw [z'] at e ⊢
      exact RepF.look r e
theorem de_errF {f : Str} (he : DE X E e w) (hb : attributeBase e f X.env (eval e X.env) = eval e X.env := by rfl) : DE X E (.Attribute e f pos) (wErrF X.K f w) := by
  obtain ⟨t, p, s⟩ := he
  refine ⟨_, pe_errF p hb, fun Z I0 H0 cx n δ σ I H P Q hx he hw hq => s Z I0 H0 cx n δ σ I H _ _ hx he hw fun d v n1 I1 H1 s1 r1 h1 => ?_⟩
  cases d with
  | exc C ds =>
    obtain ⟨T, hno, x, hl, hP⟩ := h1
    obtain ⟨fs, h4, rf⟩ := err_rep s1.wk.ih r1
    obtain ⟨y, l, ry⟩ := rf.look hl
    exact ⟨C, fs, y, h4, T, hno, l, hq x y n1 I1 H1 s1 ry hP⟩
  | _ => exact h1.elim
/-! ### C('..') without an own __init__ -/
def wExc0 (C : Addr) (w : WE) : WE := fun c n δ P => w c n δ fun n1 _ => P n1 (.exc C [])
theorem de_exc0 {C : Addr} {bmB : List Value} {B newId initId : String} {x : Str} (F : ExcBaseFacts B newId initId bmB) (hq : PySem.W.excIn X.K C bmB newId = true) (gC : X.mg x = some (.ref C)) (kC : PySem.W.keepIn X.K (.ref C) = true) (he : DE X E e w) (hg : Gl X x := by rfl)
    (hs : starEach [e] X.env = (false, eval e X.env) :: starEach [] X.env := by rfl) (hdb : (x == ("__debug__" : Str)) = false := by decide) : DE X E (.Call (.Name x p) [e] [] pos) (wExc0 C w) := by
  obtain ⟨t, pe, s⟩ := he
  refine ⟨_, pe_exc1 F hq gC kC hg pe hs hdb, fun Z I0 H0 cx n δ σ I H P Q hx he hw hq => s Z I0 H0 cx n δ σ I H _ _ hx he hw fun d v n1 I1 H1 s1 r1 h1 a ha => ?_⟩
  exact hq _ _ n1 _ _ (s1.trans (s1.wk.laid ha)) (.exc0 (φ := _) (show upd I1 a (ExO (.ref C) a) a = some (.ext _) from upd_same) fun hp ⟨oe, vs, z1, z2, z3, _⟩ => ⟨oe, vs, z1, z2, z3⟩) h1
/-! ### an own __init__: B.__init__(self, ..); self.f = v -/
theorem pe_clsInit {B : Addr} {mc : Value} {x : Str} {ta : TA} {p1 p2 : Pos} {pl : Sem Bool} (hm : X.mg x = some (.ref B)) (rB : ClX.CRead X.K B mc) (fB : PySem.W.findCls X.K (.ref B) mc "__init__" = some (.val (.builtin "ValueError.__init__"))) (ha : PA X (e :: es) ta) (hg : Gl X x := by rfl) (hdb : (x == ("__debug__" : Str)) = false := by decide)
    (hc : eval (.Call (.Attribute (.Name x p1) "__init__" p2) (e :: es) [] pos) X.env = (do
      let ov ← eval (.Name x p1) X.env
      standAt p2.atName
      let (f, first) ← holding [ov] (getMethod ov "__init__" pl)
      callWith pos f first (backTo pos (starEach (e :: es) X.env)) (backToKw pos (keywordEach [] X.env))) := by rfl)
    (he : starEach (e :: es) X.env = (false, eval e X.env) :: starEach es X.env := by rfl) (hpl : (backTo pos (starEach es X.env)).any (·.1) = false := by rfl) :
    PE X (.Call (.Attribute (.Name x p1) "__init__" p2) (e :: es) [] pos) (tVeI X.K ta) := by
  refine ⟨fun pins s σ H Q I h => PySem.W.methodCall_KW (ld_glob I hg hm ?_ hdb) hc⟩
  refine PySem.W.method_cls I.kIn rB.ga (PySem.W.cls_value I.kIn rB.rd fB rfl ?_)
  show wpAny _ _ (callWith pos (Value.builtin "ValueError.__init__") [] (backTo pos (starEach (e :: es) X.env)) []) _ _ _
  refine callWith_method1 (thn (ha.run pos pins _ σ H _ (I.tok _) h) fun us s1 ⟨vs, H1, I1, r1, a, C, ws, ev, hl, T, ea, q⟩ => ?_) he hpl
  subst ev
  cases r1 with
  | @cons _ u0 _ ur ra rw' =>
    obtain rfl : u0 = Value.ref a := ra
    exact oinit_ok T I1 ea (by rw [← Paired.length rw', sizeLine_eq]; omega) fun s' J => ⟨.non, H1, J, rfl, q⟩
def spInit (C : Addr) (f : Str) : Sp := fun vs H Q _ => ∃ (a : Addr) (v : V), vs = [.ref a, v] ∧ H a = some (exo a C none) ∧ ∀ dx, H dx = none → dx ≠ a → Q .non (upd (upd H dx (exd dx [(f, v)])) a (exo a C (some dx)))
end
theorem init_of {P : Program} {w : World} {K : PySem.W.Frag} {mg : Str → Option Value} {base : Heap} {k : Nat} {x qual : Str} {params : Arguments} {body : List Stmt} {scope : Scope} {fa C : Addr} {fd : FuncData} {N ps : List Str} {f m : Str}
    (F : FunD K x qual params body scope [] [] fa fd) (S : FnScope N ps scope) (hN : N.length = 2) (hp : ps.length = 2) (T : OexC K C) (hno : PySem.W.findIn K (.ref C) f = some none)
    (hbody : ∀ (cdv : Value) (A : Around) (outer : List Env) (s : Shared) (H : Hp) (E : XK), Gx (cxOf (L2.CX P w) P w K mg base N qual scope fa cdv A outer s H E) E k false →
      PSs (cxOf (L2.CX P w) P w K mg base N qual scope fa cdv A outer s H E) body (tSeq (fun D σ H => tVeI K (tCons (tVar 0) (tCons (tC (.str m)) tNil)) σ H fun _ H1 => D.nx σ H1) (tOst K f (tVar 0) (tVar 1)))) : FnOk P w K mg base (L2.CX P w) (k + 1) fa fd ps (spInit C f) := by
  obtain ⟨oc, od, dV, kV, doc, pm, an, cdv, ct, osl, rfl, lk, hcd, _, _⟩ := F.ex
  refine fn_of lk hcd S (fun vs H Q E ⟨a, v, e, _⟩ => by rw [e, hp]; rfl) fun A outer s H vs Q E hroom ⟨a, v, e, ha, hq⟩ => ?_
  subst e
  refine ⟨_, hbody cdv A outer s H E ⟨passes_call (takes_of rfl rfl rfl rfl) (fun _ _ _ _ h => h), passes_of rfl, rfl, hroom, (fun z => nomatch z), S.nd, takes_of rfl rfl rfl rfl⟩, ?_⟩
  have es : L2.start N [.ref a, v] = [some (.ref a), some v] := by
    unfold L2.start
    rw [hN]
    rfl
  rw [es]
  exact ⟨_, rfl, a, C, _, rfl, (show 1 ≤ 1000 by decide), T, ha, _, rfl, _, rfl, a, C, rfl, T, hno, .inl ⟨ha, fun dx h1 h2 => hq dx h1 h2⟩⟩
/-- C(e) with such an __init__, as a value -/
def tMkV (C : Addr) (sp : Sp) (ta : TA) : TE := fun σ H Q => ta σ H fun vs H1 => vs.length ≤ 1000 ∧ ∀ a, H1 a = none → sp (.ref a :: vs) (upd H1 a (exo a C none)) (fun v H2 => v = .non ∧ Q (.ref a) H2) (fun _ _ _ => False)
section
variable {X : Cx} {E : XK} {k : Nat} {q : Bool} {e e' : Expr} {es : List Expr} {p pos : Pos} {w : WE} {wa : WA}
theorem pe_mkV {x : Str} {C fI : Addr} {j : Nat} {fd : FuncData} {ps : List Str} {sp : Sp} {ta : TA} (T : OexC X.K C) (iC : PySem.W.findIn X.K (.ref C) "__init__" = some (some (.ref fI))) (tI : PySem.W.typeIn X.K (.ref fI) = some (.type "function"))
    (F1 : FnOk X.prog X.w X.K X.mg X.base (L2.CX X.prog X.w) j fI fd ps sp) (hr : Room (j + 1) X.A) (hb : Binds X.K fd ps []) (hx : Passes (L2.CX X.prog X.w) X (fun _ _ _ => False)) (hg : Gl X x) (hm : X.mg x = some (.ref C)) (ha : PA X (e :: es) ta)
    (hdb : (x == ("__debug__" : Str)) = false := by decide) (he : starEach (e :: es) X.env = (false, eval e X.env) :: starEach es X.env := by rfl) (hpl : (backTo pos (starEach es X.env)).any (·.1) = false := by rfl) : PE X (.Call (.Name x p) (e :: es) [] pos) (tMkV C sp ta) := by
  refine ⟨fun pins s σ H Q I h => wpAny_Call_Name_kw (ld_glob I hg hm (PySem.W.callWith_K (h₀ := X.base) I.ok.mod.kin T.kC (thn (ha.run pos pins s σ H _ I h) fun us s1 ⟨vs, H1, I1, r1, hz, q1⟩ => ⟨I1.kIn, ?_⟩) he hpl) hdb)⟩
  obtain ⟨nm, qn, N, bs, bm, sn, sub, ab, col, dd, k0, k1, k2, k3, k5, hC, hbm⟩ := T.cls
  show wpAny _ _ (call (.ref C) us) _ _ _
  obtain ⟨hp, g, dr, tk, os⟩ := s1
  have up : hp.objs.size ≤ hp.objs.size + 1 := Nat.le_succ _
  have hq := q1 (hp.objs.size + 1) (I1.hok.fresh up)
  have at_ : ((hp.push (PySem.W.kdv_tup us)).push (PySem.HandSPX.excO C hp.objs.size)).get? (hp.objs.size + 1) = some (PySem.HandSPX.excO C hp.objs.size) := by heap_get
  have I2 : Inv X pins σ (upd H1 (hp.objs.size + 1) (exo (hp.objs.size + 1) C none)) ⟨(hp.push (PySem.W.kdv_tup us)).push (PySem.HandSPX.excO C hp.objs.size), g, dr, tk, os⟩ :=
    I1.laid (t' := tk) (fun b o z => Heap.get?_push_of_some _ (Heap.get?_push_of_some _ z)) up (exo_ok at_)
  have r2 : Vals (V.ref (hp.objs.size + 1) :: vs) (Value.ref (hp.objs.size + 1) :: us) := .cons rfl r1
  have hl : (Value.ref (hp.objs.size + 1) :: us ++ []).length = ps.length := by
    rw [List.append_nil, ← r2.length]
    exact F1.len _ _ _ _ hq
  have bd := hb _ (Value.ref (hp.objs.size + 1) :: us) I2.kIn hl
  rw [List.append_nil] at bd
  refine wpAny_call (PySem.HandSPX.call_own F.excBase_ValueError (fun Y => PySem.HandSPX.refsVE_contains Y bm hbm) (I1.kIn _ _ hC) (PySem.W.looks_findIn I1.kIn iC) (fun self => PySem.W.bind_fn I1.kIn self tI) (by rw [← Paired.length r1, sizeLine_eq]; omega) ?_)
  refine codeAny_mono (F1.run _ X.stack _ _ ⟨Value.ref (hp.objs.size + 1) :: us, []⟩ _ _ _ (fun _ _ _ => False) (hr.make C us []) (I2.env0.make C us []) bd r2 hq) fun r s' hq' => ?_
  match r, hq' with
  | .error er, hq' => exact hx pins σ _ _ er s' I2 hq'
  | .ok .next, hq' => exact hq'.elim
  | .ok .brk, hq' => exact hq'.elim
  | .ok .cont, hq' => exact hq'.elim
  | .ok (.ret u), hq' =>
    obtain ⟨v, H2, I3, rv, ev, q2⟩ := I2.after hq'
    subst ev
    exact ⟨rv, .ref _, H2, I3, rfl, q2⟩
def wMkV (C : Addr) (f : Str) (w : WE) : WE := fun c n δ P => w c n δ fun n1 d => P n1 (.exc C [(f, d)])
theorem de_mkV {x f : Str} {C fI : Addr} {j : Nat} {fd : FuncData} {ps : List Str} (g : Gx X E k q) (T : OexC X.K C) (iC : PySem.W.findIn X.K (.ref C) "__init__" = some (some (.ref fI))) (tI : PySem.W.typeIn X.K (.ref fI) = some (.type "function"))
    (F1 : FnOk X.prog X.w X.K X.mg X.base (L2.CX X.prog X.w) j fI fd ps (spInit C f)) (hb : Binds X.K fd ps []) (hm : X.mg x = some (.ref C)) (he : DE X E e w) (hj : j + 1 ≤ k := by decide) (hg : Gl X x := by rfl)
    (hdb : (x == ("__debug__" : Str)) = false := by decide) (hs : starEach [e] X.env = (false, eval e X.env) :: starEach [] X.env := by rfl) : DE X E (.Call (.Name x p) [e] [] pos) (wMkV C f w) := by
  obtain ⟨t, pe, s⟩ := he
  refine ⟨_, pe_mkV T iC tI F1 (g.room.mono hj) hb passL hg hm (pa_cons pe pa_nil hs) hdb hs rfl, fun Z I0 H0 cx n δ σ I H P Q hx he hw hq => s Z I0 H0 cx n δ σ I H _ _ hx he hw fun d v n1 I1 H1 s1 r1 h1 => ⟨(show 1 ≤ 1000 by decide), fun a ha => ⟨a, v, rfl, upd_same, fun dx hdx hne => ⟨rfl, ?_⟩⟩⟩⟩
  have hdx1 : H1 dx = none := by rw [upd_ne hne] at hdx; exact hdx
  have l1 := s1.wk.laid (o := exd dx [(f, v)]) hdx1
  have ha1 : upd H1 dx (exd dx [(f, v)]) a = none := by rw [upd_ne (Ne.symm hne)]; exact ha
  have l2 := l1.wk.laid (o := exo a C (some dx)) ha1
  have eH : upd (upd (upd H1 a (exo a C none)) dx (exd dx [(f, v)])) a (exo a C (some dx)) = upd (upd H1 dx (exd dx [(f, v)])) a (exo a C (some dx)) := by
    funext b
    by_cases z : b = a
    · rw [z, upd_same, upd_same]
    · rw [upd_ne z, upd_ne z]
      by_cases z2 : b = dx
      · rw [z2, upd_same, upd_same]
      · rw [upd_ne z2, upd_ne z2, upd_ne z]
  rw [eH]
  refine hq _ _ n1 _ _ ((s1.trans l1).trans l2) (.exc1 (dx := dx) (φ := _) (fs := [(f, v)]) (show upd (upd I1 dx (exd dx [(f, v)])) a (exo a C (some dx)) a = some (.ext _) from upd_same) (fun hp ⟨t, z⟩ => ⟨_, _, z, ⟨rfl, rfl⟩, rfl⟩)
    (.inr ⟨_, (show upd (upd I1 dx (exd dx [(f, v)])) a (exo a C (some dx)) dx = some (.ext _) by rw [upd_ne hne]; exact upd_same), fun hp z => z⟩) (.cons (r1.mono (l1.ex.trans l2.ex)) .nil)) h1
end
end Dt

/-! DtR: the head's facts, more of them. -/
namespace Dt
open PySem PySem.Spec PyProof.Rows L2
/-! ### the Hook -/
abbrev AlX : Type := Bool × He.AlD
def obX (bs : List (PySem.W.Frag → Bool)) (fa : List He.Fa) (fn : List He.DefD) (K : PySem.W.Frag) : AlX := (bs.all fun b => b K, He.obsD fa fn K)
def obXG (n : Nat) (bs : List (PySem.W.Frag → Bool)) (fa : List He.Fa) (fn : List He.DefD) (g : Addr → Option Obj) : AlX := obX bs fa fn (He.frG g (sysModules :: cStatics :: He.asD g n))
structure SaysX (bs : List (PySem.W.Frag → Bool)) (fa : List He.Fa) (fn : List He.DefD) (K : PySem.W.Frag) : Prop where
  b : ∀ f ∈ bs, f K = true
  d : He.SaysD fa fn K
theorem saysX_of {bs : List (PySem.W.Frag → Bool)} {fa : List He.Fa} {fn : List He.DefD} {K : PySem.W.Frag} (e : obX bs fa fn K = (true, He.valD fn)) : SaysX bs fa fn K :=
  ⟨fun f hf => List.all_eq_true.mp (congrArg (fun z : AlX => z.1) e) f hf, congrArg (fun z : AlX => z.2) e⟩
def hookX (n : Nat) (bs : List (PySem.W.Frag → Bool)) (fa : List He.Fa) (fn : List He.DefD) : PySem.W.Hook where
  α := AlX
  obs := fun s => obXG n bs fa fn s.heap.get?
  val := fun _ => (true, He.valD fn)
  says := fun _ h => ∃ K : PySem.W.Frag, K.In h ∧ SaysX bs fa fn K
  of := fun _ _ e => ⟨_, He.frG_in, saysX_of e⟩
  keeps := fun _ _ _ ⟨K, hK, c⟩ k => ⟨K, PySem.W.Frag.In.keeps hK k, c⟩
theorem obXG_eq {n : Nat} {bs : List (PySem.W.Frag → Bool)} {fa : List He.Fa} {fn : List He.DefD} {g : Addr → Option Obj} {s : Shared} (h : ∀ a, g a = s.heap.get? a) : obXG n bs fa fn g = (hookX n bs fa fn).obs s := by
  have e : g = s.heap.get? := funext h
  rw [e] <;> rfl
theorem SaysX.at {bs : List (PySem.W.Frag → Bool)} {fa : List He.Fa} {fn : List He.DefD} {K : PySem.W.Frag} (c : SaysX bs fa fn K) (i : Nat) {f : PySem.W.Frag → Bool} (h : bs[i]? = some f := by rfl) : f K = true := c.b f (List.mem_of_getElem? h)
/-! ### facts by truths -/
def smB (K : PySem.W.Frag) : Bool := match K.lookup sysModules with
  | some ⟨.type c, _, _, _⟩ => decide (c = "dict")
  | _ => false
theorem smB_ok {K : PySem.W.Frag} (h : smB K = true) : KSm K := by
  unfold smB at h
  split at h
  · rename_i c _ _ _ ho
    exact ⟨_, ho, congrArg Value.type (of_decide_eq_true h)⟩
  · cases h
abbrev fnd (K : PySem.W.Frag) (C : Addr) (f : Str) : Option (Option Value) := PySem.W.findIn K (.ref C) f
def excB (K : PySem.W.Frag) (C : Addr) : Bool := He.eqO (fnd K C "__getattribute__") (some (some (.builtin "BaseException.__getattribute__"))) && (He.eqO (fnd K C "__getattr__") (some none) && (decide (PySem.W.subIn K (.ref C) (.type "BaseException") = some true) && (PySem.W.hasDictIn K C &&
  (He.eqO (fnd K C "__class__") (some (some (.builtin "object.__class__"))) && (He.eqO (PySem.W.specialIn K (.builtin "object.__class__") "__get__") (some (some (.builtin "getset_descriptor.__get__"))) && (decide (PySem.W.takesIn K (.builtin "object.__class__") = some true) && decide (PySem.W.mroIn K C (.type "object") = some true)))))))
theorem excB_ok {K : PySem.W.Frag} {C : Addr} (h : excB K C = true) : ExcC K C := by
  obtain ⟨h1, h⟩ := He.ba h
  obtain ⟨h2, h⟩ := He.ba h
  obtain ⟨h3, h⟩ := He.ba h
  obtain ⟨h4, h⟩ := He.ba h
  obtain ⟨h5, h⟩ := He.ba h
  obtain ⟨h6, h⟩ := He.ba h
  obtain ⟨h7, h8⟩ := He.ba h
  exact ⟨He.eqO_ok h1, He.eqO_ok h2, of_decide_eq_true h3, h4, He.eqO_ok h5, He.eqO_ok h6, of_decide_eq_true h7, of_decide_eq_true h8⟩
theorem excC_xf {K : PySem.W.Frag} {C : Addr} (T : ExcC K C) : XfC K C := ⟨T.hg, T.hk, T.hs, T.hd⟩
def oexO (K : PySem.W.Frag) (C : Addr) : Bool := match K.lookup C with
  | some ⟨.type c, _, .cls cd, sl⟩ => decide (c = "type") && (match cd.mro, sl.toList with
    | .ref C' :: bm, [_, _, _, _, some (.builtin n), _] => decide (C' = C) && (decide (n = "ValueError.__new__") && (!cd.hasDel && (cd.hasDict && HandSPX.refsVE bm)))
    | _, _ => false)
  | _ => false
def oexB (K : PySem.W.Frag) (C : Addr) : Bool := oexO K C && (He.eqO (fnd K C "__setattr__") (some (some (.builtin "object.__setattr__"))) && (decide (PySem.W.subIn K (.ref C) (.type "BaseException") = some true) && (decide (PySem.W.typeIn K (.ref C) = some (.type "type")) && PySem.W.keepIn K (.ref C))))
theorem oexB_ok {K : PySem.W.Frag} {C : Addr} (h : oexB K C = true) : OexC K C := by
  obtain ⟨h1, h⟩ := He.ba h
  obtain ⟨h2, h⟩ := He.ba h
  obtain ⟨h3, h⟩ := He.ba h
  obtain ⟨h4, h5⟩ := He.ba h
  refine ⟨?_, He.eqO_ok h2, of_decide_eq_true h3, of_decide_eq_true h4, h5⟩
  unfold oexO at h1
  split at h1
  · rename_i c dd cd sl ho
    obtain ⟨e0, h6⟩ := He.ba h1
    clear h1
    have e1 := of_decide_eq_true e0
    subst e1
    split at h6
    · rename_i C' bm k0 k1 k2 k3 n k5 hm hs
      obtain ⟨a1, h6⟩ := He.ba h6
      obtain ⟨a2, h6⟩ := He.ba h6
      obtain ⟨a3, h6⟩ := He.ba h6
      obtain ⟨a4, a5⟩ := He.ba h6
      have a1 := of_decide_eq_true a1
      have a2 := of_decide_eq_true a2
      subst a1 a2
      obtain ⟨nm, bs, mro, ns, qn, hd, sn, sub, ab, col, del⟩ := cd
      dsimp only at hm a3 a4
      subst hm a4
      have a3 : del = false := by simpa using a3
      subst a3
      have es : sl = #[k0, k1, k2, k3, some (.builtin "ValueError.__new__"), k5] := by
        rw [← hs]
      subst es
      exact ⟨nm, qn, ns, bs, bm, sn, sub, ab, col, dd, k0, k1, k2, k3, k5, ho, a5⟩
    · cases h6
  · cases h1
/-- C.__init__ is the built-in one -/
def ciB (K : PySem.W.Frag) (C : Addr) : Bool := PySem.W.readsIn K C (.type "type") && (He.eqO (PySem.W.specialIn K (.ref C) "__getattribute__") (some (some (.builtin "type.__getattribute__"))) && (match PySem.W.findCls K (.ref C) (.type "type") "__init__" with
  | some (.val (.builtin n)) => decide (n = "ValueError.__init__")
  | _ => false))
theorem ciB_ok {K : PySem.W.Frag} {C : Addr} (h : ciB K C = true) : ClX.CRead K C (.type "type") ∧ PySem.W.findCls K (.ref C) (.type "type") "__init__" = some (.val (.builtin "ValueError.__init__")) := by
  obtain ⟨h1, h⟩ := He.ba h
  obtain ⟨h2, h3⟩ := He.ba h
  refine ⟨⟨h1, He.eqO_ok h2⟩, ?_⟩
  split at h3
  · rename_i n e
    rw [e, of_decide_eq_true h3]
  · cases h3
/-- C's own __init__ -/
def initB (K : PySem.W.Frag) (x : Str) : Bool := He.eqO (fnd K (He.ga K x) "__init__") (some (some (.ref (He.ma K (He.ga K x) "__init__")))) && decide (PySem.W.typeIn K (.ref (He.ma K (He.ga K x) "__init__")) = some (.type "function"))
theorem initB_ok {K : PySem.W.Frag} {x : Str} (h : initB K x = true) : PySem.W.findIn K (.ref (He.ga K x)) "__init__" = some (some (.ref (He.ma K (He.ga K x) "__init__"))) ∧ PySem.W.typeIn K (.ref (He.ma K (He.ga K x) "__init__")) = some (.type "function") :=
  ⟨He.eqO_ok (He.ba h).1, of_decide_eq_true (He.ba h).2⟩
def kitB (K : PySem.W.Frag) (C : Addr) (u : Value) (b : Bool) : Bool := decide (PySem.W.kitOne K (.ref C) u = some b)
def noB (K : PySem.W.Frag) (C : Addr) (f : Str) : Bool := He.eqO (fnd K C f) (some none)
end Dt

/-! DtS: more of the same. -/
namespace Dt
open PySem PySem.Spec PyProof.Rows L2
/-! ### [x] * n -/
theorem rep_flat {K : PySem.W.Frag} {I : Hp} {vs : List V} {ds : List D} (r : RepL K I vs ds) : ∀ n : Nat, RepL K I (List.replicate n vs).flatten (List.replicate n ds).flatten
  | 0 => .nil
  | n + 1 => by
    rw [List.replicate_succ, List.replicate_succ, List.flatten_cons, List.flatten_cons]
    exact r.append (rep_flat r n)
def repW : W2
  | .lst xs, .int k, P => -(2 ^ 63) ≤ k ∧ k < 2 ^ 63 ∧ xs.length * k.toNat ≤ sizeLine ∧ P (.lst (List.replicate k.toNat xs).flatten)
  | _, _, _ => False
theorem opd_rep {K : PySem.W.Frag} : OpD K rRep repW := fun Z n I H x y d e P Q w rx ry hf hq => by
  cases rx with
  | lst h r =>
    cases ry with
    | int i =>
      obtain ⟨h1, h2, h3, h4⟩ := hf
      exact ⟨_, i, _, rfl, rfl, w.ih _ _ h, h1, h2, by rw [r.length]; exact h3, fun p hp => hq _ _ _ _ (w.laid hp) (mk_lst w hp (rep_flat r _)) h4⟩
    | _ => exact hf.elim
  | _ => exact (by cases e <;> exact hf.elim)
theorem de_rep {X : Cx} {E : XK} {a b : Expr} {pos : Pos} {wa wb : WE} (ha : DE X E a wa) (hb : DE X E b wb) : DE X E (.BinOp a .Mult b pos) (wOp repW wa wb) := de_op op_rep opd_rep ha hb
structure GInit (P : Program) (w : World) (K : PySem.W.Frag) (mg : Str → Option Value) (base : Heap) (x f : Str) (j : Nat) : Prop where
  ex : ∃ (fd : FuncData) (ps : List Str), FnOk P w K mg base (L2.CX P w) j (He.ma K (He.ga K x) "__init__") fd ps (spInit (He.ga K x) f) ∧ Binds K fd ps []
section
variable {X : Cx} {E : XK} {k j : Nat} {q : Bool} {e : Expr} {p pos : Pos} {w : WE} {x f : Str}
theorem de_mkVF (g : Gx X E k q) (T : OexC X.K (He.ga X.K x)) (i : initB X.K x = true) (F : GInit X.prog X.w X.K X.mg X.base x f j) (hm : X.mg x = some (.ref (He.ga X.K x))) (he : DE X E e w) (hj : j + 1 ≤ k := by decide) (hg : Gl X x := by rfl)
    (hdb : (x == ("__debug__" : Str)) = false := by decide) (hs : starEach [e] X.env = (false, eval e X.env) :: starEach [] X.env := by rfl) : DE X E (.Call (.Name x p) [e] [] pos) (wMkV (He.ga X.K x) f w) := by
  obtain ⟨fd, ps, F1, hb⟩ := F.ex
  exact de_mkV g T (initB_ok i).1 (initB_ok i).2 F1 hb hm he hj hg hdb hs
end
end Dt

/-! DtT: raise; instances made, their fields and properties read. -/
namespace Dt
open PySem PySem.Spec PyProof.Rows L2
/-! ### raise -/
section
variable {X : Cx} {E : XK} {k j : Nat} {q : Bool} {e : Expr} {w : WE} {x f : Str} {p p2 pos pos' : Pos} {m : Str}
def wRaise0 (C : Addr) : WS := fun c _ n _ => c.ex n ⟨.ref C, none⟩
theorem ds_raise0 {C : Addr} {bmB : List Value} {B newId initId : String} {jj : Nat} (g : Gx X E k q) (F : ExcBaseFacts B newId initId bmB) (hq : PySem.W.excIn X.K C bmB newId = true) (gC : X.mg x = some (.ref C)) (kC : PySem.W.keepIn X.K (.ref C) = true)
    (h1 : PySem.W.subIn X.K (.ref C) (.type "BaseException") = some true) (h2 : PySem.W.typeIn X.K (.ref C) = some (.type "type")) (hg : Gl X x := by rfl) (hdb : (x == ("__debug__" : Str)) = false := by decide) :
    DS X E (.Raise (some (.Call (.Name x p) [.Constant (.str m) jj p2] [] pos)) none pos') (wRaise0 C) :=
  ⟨_, ps_raise g.calm g.tk (pmk_own F hq gC kC (raises_own h1 h2) hg hdb), fun Z I0 H0 cx De D' n δ σ I H hx ho he hw => hx ⟨.ref C, none⟩ none n I H he.st trivial hw⟩
def wRaise1 (C : Addr) (f : Str) (w : WE) : WS := fun c _ n δ => w c n δ fun n1 d => c.ex n1 ⟨.ref C, some [(f, d)]⟩
theorem ds_raise1 (g : Gx X E k q) (T : OexC X.K (He.ga X.K x)) (i : initB X.K x = true) (F : GInit X.prog X.w X.K X.mg X.base x f j) (hm : X.mg x = some (.ref (He.ga X.K x))) (he : DE X E e w) (hj : j + 1 ≤ k := by decide) (hg : Gl X x := by rfl)
    (hdb : (x == ("__debug__" : Str)) = false := by decide) (hs : starEach [e] X.env = (false, eval e X.env) :: starEach [] X.env := by rfl) : DS X E (.Raise (some (.Call (.Name x p) [e] [] pos)) none pos') (wRaise1 (He.ga X.K x) f w) := by
  obtain ⟨fd, ps, F1, hb⟩ := F.ex
  obtain ⟨t, pe, s⟩ := he
  refine ⟨_, ps_raise g.calm g.tk (pmk_oex T (initB_ok i).1 (initB_ok i).2 F1 (g.room.mono hj) hb .nil passL hg hm (pa_cons pe pa_nil hs) hdb hs rfl), fun Z I0 H0 cx De D' n δ σ I H hx ho he hw => s Z I0 H0 cx n δ σ I H _ _ hx he hw fun d v n1 I1 H1 s1 r1 h1 => ⟨(show 1 ≤ 1000 by decide), fun a ha => ?_⟩⟩
  refine ⟨a, v, rfl, upd_same, fun dx hdx hne => ⟨rfl, dx, [(f, v)], upd_same, by rw [upd_ne hne]; exact upd_same, by rw [upd_ne hne] at hdx; exact hdx, ?_⟩⟩
  have hdx1 : H1 dx = none := by rw [upd_ne hne] at hdx; exact hdx
  have eH : upd (del (upd (upd (upd H1 a (exo a (He.ga X.K x) none)) dx (exd dx [(f, v)])) a (exo a (He.ga X.K x) (some dx))) a) dx (.xd [(f, v)]) = upd H1 dx (.xd [(f, v)]) := by
    funext b
    by_cases z : b = dx
    · rw [z, upd_same, upd_same]
    · rw [upd_ne z, upd_ne z]
      by_cases z2 : b = a
      · rw [z2, del_same, ha]
      · rw [del_ne z2, upd_ne z2, upd_ne z, upd_ne z2]
  rw [eH]
  have l1 := s1.wk.young (o := .xd [(f, v)]) hdx1
  exact hx ⟨.ref (He.ga X.K x), some [(f, d)]⟩ (some dx) n1 I1 _ ((he.st.trans s1).trans l1) ⟨[(f, v)], upd_same, .cons r1 .nil⟩ h1
end
/-! ### fields -/
section
variable {X : Cx} {E : XK} {k j : Nat} {q : Bool} {e : Expr} {w : WE} {f : Str} {pos : Pos}
def wFld (K : PySem.W.Frag) (f : Str) (w : WE) : WE := fun c n δ P => w c n δ fun n1 d => match d with
  | .ins C fs => Cls K C ∧ NoAttr K C f ∧ ∃ v, fs.lookup f = some v ∧ P n1 v
  | _ => False
theorem de_fld (he : DE X E e w) (hb : attributeBase e f X.env (eval e X.env) = eval e X.env := by rfl) : DE X E (.Attribute e f pos) (wFld X.K f w) := by
  obtain ⟨t, p, s⟩ := he
  refine ⟨_, pe_fld p hb, fun Z I0 H0 cx n δ σ I H P Q hx he hw hq => s Z I0 H0 cx n δ σ I H _ _ hx he hw fun d v n1 I1 H1 s1 r1 h1 => ?_⟩
  cases r1 with
  | ins h r =>
    obtain ⟨c, no, x, l, hP⟩ := h1
    obtain ⟨y, l2, ry⟩ := r.look l
    exact ⟨_, _, _, _, y, rfl, s1.wk.ih _ _ h, c, no, l2, hq x y n1 I1 H1 s1 ry hP⟩
  | _ => exact h1.elim
/-- a property that gives the field o -/
structure GProp (P : Program) (w : World) (K : PySem.W.Frag) (mg : Str → Option Value) (base : Heap) (C : Addr) (f o : Str) (j : Nat) : Prop where
  ex : ∃ (p g : Addr) (fd : FuncData), PropOf K C f p g ∧ FnOk P w K mg base (L2.CX P w) j g fd ["self"] (getSp C o) ∧ Binds K fd ["self"] []
def wProp (C : Addr) (o : Str) (w : WE) : WE := fun c n δ P => w c n δ fun n1 d => match d with
  | .ins C' fs => C' = C ∧ ∃ v, fs.lookup o = some v ∧ P n1 v
  | _ => False
theorem de_prop {C : Addr} {o : Str} (g : Gx X E k q) (c : Cls X.K C) (G : GProp X.prog X.w X.K X.mg X.base C f o j) (he : DE X E e w) (hj : j + 1 ≤ k := by decide) (hb : attributeBase e f X.env (eval e X.env) = eval e X.env := by rfl) : DE X E (.Attribute e f pos) (wProp C o w) := by
  obtain ⟨t, p, s⟩ := he
  obtain ⟨pp, gg, fd, hp, F, b⟩ := G.ex
  refine ⟨_, pe_prop (E := E0) p c hp F (g.room.mono hj) b .nil passL hb, fun Z I0 H0 cx n δ σ I H P Q hx he hw hq => s Z I0 H0 cx n δ σ I H _ _ hx he hw fun d v n1 I1 H1 s1 r1 h1 => ?_⟩
  cases r1 with
  | ins h r =>
    obtain ⟨rfl, x, l, hP⟩ := h1
    obtain ⟨y, l2, ry⟩ := r.look l
    exact ⟨_, _, _, rfl, s1.wk.ih _ _ h, _, _, _, y, rfl, s1.wk.ih _ _ h, l2, hq x y n1 I1 H1 s1 ry hP⟩
  | _ => exact h1.elim
end
end Dt

/-! DtU: C(..): an own __init__ that looks at its arguments, then stores fields. -/
namespace Dt
open PySem PySem.Spec PyProof.Rows L2
def putFD (f : Str) (d : D) : List (Str × D) → List (Str × D)
  | [] => [(f, d)]
  | (g, x) :: r => if g = f then (g, d) :: r else (g, x) :: putFD f d r
theorem putF_rep {K : PySem.W.Frag} {I : Hp} {f : Str} {v : V} {d : D} (h : Rep K I v d) : ∀ {vs : List (Str × V)} {ds : List (Str × D)}, RepF K I vs ds → RepF K I (putF f v vs) (putFD f d ds)
  | _, _, .nil => .cons h .nil
  | _, _, .cons (k := g) hh r => by
    unfold putF putFD
    by_cases e : g = f
    · rw [if_pos e, if_pos e]
      exact .cons h r
    · rw [if_neg e, if_neg e]
      exact .cons hh (putF_rep h r)
theorem RepF.length {K : PySem.W.Frag} {I : Hp} : ∀ {vs : List (Str × V)} {ds : List (Str × D)}, RepF K I vs ds → vs.length = ds.length
  | _, _, .nil => rfl
  | _, _, .cons _ r => by rw [List.length_cons, List.length_cons, r.length]
section
variable {K : PySem.W.Frag} {Z : Res} {n n0 : Nat} {I0 H0 I00 H00 I H : Hp} {δ : List Sl} {σ : L2.St}
theorem Ev.rebase (e : Ev K Z I0 H0 n δ σ I H) (s : Stp Z I00 H00 n0 I0 H0) : Ev K Z I00 H00 n δ σ I H :=
  ⟨s.trans e.st, e.len, e.vals, fun i d h => by
    obtain ⟨a, h1, h2, h3, h4, h5⟩ := e.owns i d h
    refine ⟨a, h1, h2, h3, ?_, h5⟩
    cases z : H00 a with
    | none => rfl
    | some o => exact absurd h4 (s.live (by rw [z]; exact fun y => nomatch y)), e.sep⟩
/-- a young instance is changed -/
theorem Ev.mutI {x C dx : Addr} {vs us : List (Str × V)} (e : Ev K Z I0 H0 n δ σ I H) (hx : H x = some (.ins C dx vs)) (hi : I x = none) (nf : ¬ Z.F x) (h0 : H0 x = none) : Ev K Z I0 H0 n δ σ I (upd H x (.ins C dx us)) :=
  ⟨e.st.mutY h0 nf hi, e.len, e.vals, fun i d h => by
    obtain ⟨a, h1, h2, h3, h4, h5⟩ := e.owns i d h
    have ne : a ≠ x := fun z => by
      obtain ⟨o, ho, nc⟩ := h5.cell
      rw [z, hx] at ho
      cases ho
      exact nc trivial
    exact ⟨a, h1, h2, h3, h4, h5.step (Le.refl _) fun o z => by rw [upd_ne ne]; exact z⟩, e.sep⟩
end
abbrev WM := Ct → Addr → Addr → Nat → List Sl → List (Str × D) → (Nat → List (Str × D) → Prop) → Prop
/-- the stores: base ahead of the instance -/
def SSt (K : PySem.W.Frag) (E : XK) (t : TS) (m : WM) : Prop := ∀ (C x dx : Addr) (Z : Res) (I0 H0 : Hp) (cx : Nat → Xn → Prop) (n : Nat) (δ : List Sl) (σ : L2.St) (I H : Hp) (vs : List (Str × V)) (fs : List (Str × D)) (P : Nat → List (Str × D) → Prop) (D' : Ends),
  XR K E Z I0 H0 cx → Ev K Z I0 H0 n δ σ I H → H x = some (.ins C dx vs) → I x = none → ¬ Z.F x → H0 x = none → RepF K I vs fs → m ⟨Z, cx⟩ C x n δ fs P →
  (∀ n' σ' I' H' vs' fs', Stp Z I0 H0 n' I' H' → I' x = none → H' x = some (.ins C dx vs') → RepF K I' vs' fs' → P n' fs' → D'.nx σ' H') → t D' σ H
def DSt (X : Cx) (E : XK) (b : List Stmt) (m : WM) : Prop := ∃ t, PSs X b t ∧ SSt X.K E t m
/-- looks first, then stores: base behind the instance's making -/
def SMk (K : PySem.W.Frag) (E : XK) (t : TS) (m : WM) : Prop := ∀ (C x dx : Addr) (Z : Res) (n0 : Nat) (I00 H00 I0 H0 : Hp) (cx : Nat → Xn → Prop) (n : Nat) (δ : List Sl) (σ : L2.St) (I H : Hp) (P : Nat → List (Str × D) → Prop) (D' : Ends),
  XR K E Z I00 H00 cx → Stp Z I00 H00 n0 I0 H0 → Ev K Z I0 H0 n δ σ I H → H0 x = some (.ins C dx []) → I0 x = none → ¬ Z.F x → H00 x = none → m ⟨Z, cx⟩ C x n δ [] P →
  (∀ n' σ' I' H' vs' fs', Stp Z I00 H00 n' I' H' → I' x = none → H' x = some (.ins C dx vs') → RepF K I' vs' fs' → P n' fs' → D'.nx σ' H') → t D' σ H
def DMk (X : Cx) (E : XK) (b : List Stmt) (m : WM) : Prop := ∃ t, PSs X b t ∧ SMk X.K E t m
theorem XR.rebase {K : PySem.W.Frag} {E : XK} {Z : Res} {n0 : Nat} {I00 H00 I0 H0 : Hp} {cx : Nat → Xn → Prop} (h : XR K E Z I00 H00 cx) (s : Stp Z I00 H00 n0 I0 H0) : XR K E Z I0 H0 cx := fun x d n I H st => h x d n I H (s.trans st)
def mNil : WM := fun _ _ _ n _ fs P => P n fs
def mSto (K : PySem.W.Frag) (f : Str) (w : WE) (r : WM) : WM := fun c C x n δ fs P => w c n δ fun n1 d => δ[0]? = some (.v (.obj (.ref x))) ∧ Cls K C ∧ NoAttr K C f ∧ fs.length < 1000 ∧ r c C x n1 δ (putFD f d fs) P
def mPre (u : WS) (r : WM) : WM := fun c C x n δ fs P => u c ⟨fun n1 δ1 => r c C x n1 δ1 fs P, fun _ _ => False, fun _ _ => False, fun _ _ => False⟩ n δ
section
variable {X : Cx} {E : XK} {k j : Nat} {q : Bool} {e : Expr} {w : WE} {f : Str} {p pos : Pos} {st : Stmt} {rest : List Stmt} {u : WS} {m : WM} {x : Str}
theorem dst_nil : DSt X E [] mNil := ⟨_, pss_nil, fun C x dx Z I0 H0 cx n δ σ I H vs fs P D' hx he h1 h2 h3 h4 r hm hq => hq n σ I H vs fs he.st h2 h1 r hm⟩
theorem dst_cons {np : Pos} (he : DE X E e w) (hr : DSt X E rest m) (hN : X.N[0]? = some x := by rfl) (hv : Vis X.env.scope x := by first | exact Or.inl rfl | exact Or.inr (Or.inl rfl) | exact Or.inr (Or.inr rfl)) (hd : (x == ("__debug__" : Str)) = false := by decide) (hcd : (x == ("__classdict__" : Str)) = false := by decide)
    (hs : swapsWith e (some (.Attribute (.Name x np) f p)) pos.line X.env = pure false := by rfl) : DSt X E (.Assign [.Attribute (.Name x np) f p] e pos :: rest) (mSto X.K f w m) := by
  obtain ⟨_, pe, se⟩ := he
  obtain ⟨_, pr, sr⟩ := hr
  refine ⟨_, pss_cons (ps_fld (pe_var hN hv hd hcd) pe hs) pr, fun C x dx Z I0 H0 cx n δ σ I H vs fs P D' hx he h1 h2 h3 h4 r hm hq => se Z I0 H0 cx n δ σ I H _ _ hx he hm fun d v n1 I1 H1 s1 r1 ⟨g0, g1, g2, g3, g4⟩ => ?_⟩
  have e1 := he.step s1
  obtain ⟨y, y1, y2⟩ := e1.vals 0 _ g0
  cases y2
  have hx1 : H1 x = some (.ins C dx vs) := s1.kp x _ h3 h1
  have hi1 : I1 x = none := s1.nw x h2 (by rw [h1]; exact fun z => nomatch z)
  have rm := r.mono s1.ex
  exact ⟨_, y1, x, C, dx, vs, rfl, hx1, g1, g2, by rw [rm.length]; exact g3, sr C x dx Z I0 H0 cx n1 δ σ I1 _ _ _ P D' hx (e1.mutI hx1 hi1 h3 h4) upd_same hi1 h3 h4 (putF_rep r1 rm) g4 hq⟩
theorem DSt.mk (h : DSt X E rest m) : DMk X E rest m := by
  obtain ⟨t, p, s⟩ := h
  refine ⟨t, p, fun C x dx Z n0 I00 H00 I0 H0 cx n δ σ I H P D' hx st he h1 h2 h3 h4 hm hq => ?_⟩
  exact s C x dx Z I00 H00 cx n δ σ I H [] [] P D' hx (he.rebase st) (he.st.kp x _ h3 h1) (he.st.nw x h2 (by rw [h1]; exact fun z => nomatch z)) h3 h4 .nil hm hq
theorem dmk_pre (h : DS X E st u) (hr : DMk X E rest m) : DMk X E (st :: rest) (mPre u m) := by
  obtain ⟨_, p, s⟩ := h
  obtain ⟨_, pr, sr⟩ := hr
  refine ⟨_, pss_cons p pr, fun C x dx Z n0 I00 H00 I0 H0 cx n δ σ I H P D' hx st he h1 h2 h3 h4 hm hq => ?_⟩
  exact s Z I0 H0 cx ⟨fun n1 δ1 => m ⟨Z, cx⟩ C x n1 δ1 [] P, fun _ _ => False, fun _ _ => False, fun _ _ => False⟩ _ n δ σ I H (hx.rebase st) ⟨fun n1 δ1 σ1 I1 H1 _ e1 hm1 => sr C x dx Z n0 I00 H00 I0 H0 cx n1 δ1 σ1 I1 H1 P D' hx st e1 h1 h2 h3 h4 hm1 hq, fun _ _ _ _ _ _ _ h => h.elim, fun _ _ _ _ _ _ _ h => h.elim, fun _ _ _ _ _ _ _ h => h.elim⟩ he hm
end
/-- what the call C(ds) promises -/
def spMk (K : PySem.W.Frag) (C : Addr) (cf : Con) : Sp := fun vs H Q E => ∃ (x dx : Addr) (ws : List V) (Z : Res) (n : Nat) (I H1 : Hp) (ds : List D) (P : Nat → D → Prop) (cx : Nat → Xn → Prop), vs = .ref x :: ws ∧ H = upd (upd H1 dx (.own x)) x (.ins C dx []) ∧ H1 x = none ∧ H1 dx = none ∧ dx ≠ x ∧
  Wk Z n I H1 ∧ RepL K I ws ds ∧ cf ⟨Z, cx⟩ n ds P ∧ (∀ d n' I' H', Stp Z I H1 n' I' H' → Rep K I' (.ref x) d → P n' d → Q .non H') ∧ XR K E Z I H1 cx
theorem mk_of {P : Program} {w : World} {K : PySem.W.Frag} {mg : Str → Option Value} {base : Heap} {k : Nat} {x qual : Str} {params : Arguments} {body : List Stmt} {scope : Scope} {dvs : List V} {kws : List (Str × V)} {f C : Addr} {fd : FuncData} {N ps : List Str} {cf : Con}
    (F : FunD K x qual params body scope dvs kws f fd) (S : FnScope N ps scope) (len : ∀ c n ds P, cf c n ds P → ds.length + 1 = ps.length)
    (hbody : ∀ (cdv : Value) (A : Around) (outer : List Env) (s : Shared) (H : Hp) (E : XK), Gx (cxOf (L2.CX P w) P w K mg base N qual scope f cdv A outer s H E) E k false →
      ∃ m, DMk (cxOf (L2.CX P w) P w K mg base N qual scope f cdv A outer s H E) E body m ∧ ∀ a c n ds P, cf c n ds P → m c C a n (δ0 N (.obj (.ref a) :: ds)) [] fun n' fs => P n' (.ins C fs)) : FnOk P w K mg base (L2.CX P w) (k + 1) f fd ps (spMk K C cf) := by
  obtain ⟨oc, od, dV, kV, doc, pm, an, cdv, ct, osl, rfl, lk, hcd, _, _⟩ := F.ex
  refine fn_of lk hcd S (fun vs H Q E ⟨x, dx, ws, Z, n, I, H1, ds, P, cx, e, _, _, _, _, hw, hr, hc, _⟩ => by rw [e, List.length_cons, hr.length]; exact len _ _ _ _ hc) fun A outer s H vs Q E hroom ⟨x, dx, ws, Z, n, I, H1, ds, P, cx, e, eH, hx1, hd1, hne, hw, hr, hc, hq, hx⟩ => ?_
  subst e
  subst eH
  obtain ⟨m, ⟨t, pt, st⟩, hm⟩ := hbody cdv A outer s _ E ⟨passes_call (takes_of rfl rfl rfl rfl) (fun _ _ _ _ h => h), passes_of rfl, rfl, hroom, (fun z => nomatch z), S.nd, takes_of rfl rfl rfl rfl⟩
  have y1 := hw.young (o := .own x) hd1
  have hx2 : upd H1 dx (.own x) x = none := by rw [upd_ne (Ne.symm hne)]; exact hx1
  have y2 := y1.trans (y1.wk.young (o := .ins C dx []) hx2)
  have ix : I x = none := hw.ih.free hx1
  refine ⟨t, pt, st C x dx Z n I H1 I _ cx n _ _ I _ (fun n' fs => P n' (.ins C fs)) _ hx y2 (Ev.start y2.wk (.cons (.obj _) hr)) upd_same ix (hw.nf hx1) hx1 (hm x ⟨Z, cx⟩ n ds P hc) fun n' σ' I' H' vs' fs' s' i' h' r' hP => ?_⟩
  exact hq (.ins C fs') n' (upd I' x (.ins C dx vs')) H' (s'.keep hx1 (hw.nf hx1) i' h') (.ins upd_same (r'.mono (Le.new i'))) hP
/-- a class by its name -/
structure GMk (P : Program) (w : World) (K : PySem.W.Frag) (mg : Str → Option Value) (base : Heap) (x : Str) (j : Nat) (cf : Con) : Prop where
  ex : ∃ (f : Addr) (fd : FuncData) (ps : List Str), FnOk P w K mg base (L2.CX P w) j f fd ps (spMk K (He.ga K x) cf) ∧ Mk K (He.ga K x) f ∧ mg x = some (.ref (He.ga K x)) ∧ Binds K fd ps []
section
variable {X : Cx} {E : XK} {k j : Nat} {q : Bool} {e : Expr} {es : List Expr} {wa : WA} {p pos : Pos} {x : Str} {cf : Con}
theorem de_make (g : Gx X E k q) (F : GMk X.prog X.w X.K X.mg X.base x j cf) (ha : DA X E (e :: es) wa) (hj : j + 1 ≤ k := by decide) (hg : Gl X x := by rfl) (hdb : (x == ("__debug__" : Str)) = false := by decide)
    (he : starEach (e :: es) X.env = (false, eval e X.env) :: starEach es X.env := by rfl) (hpl : (backTo pos (starEach es X.env)).any (·.1) = false := by rfl) : DE X E (.Call (.Name x p) (e :: es) [] pos) (wCall cf wa) := by
  obtain ⟨f, fd, ps, F1, M, hm, hb⟩ := F.ex
  obtain ⟨t, pa, sa⟩ := ha
  refine ⟨_, pe_make M F1 (g.room.mono hj) hg hm hb .nil g.pass pa hdb he hpl, fun Z I0 H0 cx n δ σ I H P Q hx he hw hq => sa Z I0 H0 cx n δ σ I H _ _ hx he hw fun ds vs n1 I1 H1 s1 r1 h1 x dx h2 h3 h4 => ?_⟩
  rw [List.append_nil]
  exact ⟨x, dx, vs, Z, n1, I1, H1, ds, P, cx, rfl, rfl, h2, h3, h4, s1.wk, r1, h1, fun d n2 I2 H2 s2 r2 hP => ⟨rfl, hq d _ n2 I2 H2 (s1.trans s2) r2 hP⟩, hx.rebase (he.st.trans s1)⟩
end
end Dt

/-! DtV: an own class's __len__, __eq__ (and != by it). -/
namespace PySem.W
open PySem PySem.Spec PySem.Calls PyProof.Rows
section
variable {prog : Program} {w : World} {A : Around} {E : Value → Shared → Prop} {s : Shared} {K : Frag} {x C f L : Addr} {ox : Obj} {od : Option Obj} {b tb : Value} {h₀ : Heap} {mL : Str → Option Value}
/-- object.__ne__ by the class's own __eq__ -/
theorem dt_neBody {Q : Fin → Shared → Prop} (hu : A.units < cLine) (X : K.In s.heap) (I : InstAt s.heap x ox C od) (hs : findIn K (.ref C) "__eq__" = some (some (.ref f))) (hf : isFn K (.ref f) = true)
    (h : wpAny (model prog w) A (call (.ref f) [.ref x, b]) (fun v s' => ∃ c, v = .bool c ∧ Q (.done (.ret (.bool (!c)))) s') E s) : wpAny (model prog w) A (Builtin.«object.__ne__» ⟨[.ref x, b], []⟩) Q E s := by
  have one : wpAny (model prog w) A (callSpecialIfBound? (.ref x) (Str.ofString "__eq__") [b]) (fun r s' => ∃ c, r = some (.bool c) ∧ Q (.done (.ret (.bool (!c)))) s') E s :=
    ifBound_K X I hs hf (wpAny_mono h (fun v s' ⟨c, e, q⟩ => ⟨c, by rw [e], q⟩) fun _ _ e => e)
  unfold Builtin.«object.__ne__»
  refine wpAny_bind (wpAny_of_eq (a := ((Value.ref x : Value), [b])) (by first | rfl | (simp only [slotArgs]; rfl)) ?_)
  refine wpAny_bind (wpAny_cRoomFor hu (wpAny_bind (wpAny_mono one (fun r s' z => ?_) fun _ _ e => e)))
  obtain ⟨c, rfl, q⟩ := z
  exact wpAny_bind (wpAny_truthy_bool (wpAny_pure q))
theorem dt_neTry {Q : Option Value → Shared → Prop} (hu : A.units + 1 < cLine) (X : K.In s.heap) (I : InstAt s.heap x ox C od) (hs : findIn K (.ref C) "__eq__" = some (some (.ref f))) (hf : isFn K (.ref f) = true)
    (hn : findIn K (.ref C) "__ne__" = some (some (.builtin "object.__ne__"))) (ho : subIn K (.ref C) (.type "object") = some true)
    (h : wpAny (model prog w) A.in1 (call (.ref f) [.ref x, b]) (fun v s' => ∃ c, v = .bool c ∧ Q (some (.bool (!c))) s') E s) : wpAny (model prog w) A (tryCompare (.ref x) "__ne__" b) Q E s := by
  have kk : Looks (model prog w) s.heap (isInstance (.ref x) (.type "object")) true := I.type.andThen (looks_subIn X ho)
  have go : wpAny (model prog w) A (call (.builtin "object.__ne__") [.ref x, b]) (fun v s' => ∃ c, v = .bool (!c) ∧ Q (some (.bool (!c))) s') E s := by
    obtain ⟨h0, h1, h2, t, h3⟩ := s
    refine wpAny_call (codeAny_call_builtin PySem.F.cmp_object.ne.plain F.cmpEntry_ne (@check_slot (model prog w) _ _ ⟨h0, h1, h2, t, h3⟩ "object.__ne__" "object" "__ne__" (.ref x) [b] [] _ F.cmpKind_ne F.cmpSplit_ne kk (F.cmpArgs_ne _ _) ?_))
    exact dt_neBody (A := A.in1) hu X I hs hf (wpAny_mono h (fun v s' ⟨c, e, q⟩ => ⟨c, e, c, rfl, q⟩) fun _ _ e => e)
  have one : wpAny (model prog w) A (callSpecialIfBound? (.ref x) (Str.ofString "__ne__") [b]) (fun r s' => ∃ c, r = some (.bool (!c)) ∧ Q (some (.bool (!c))) s') E s := by
    simp only [callSpecialIfBound?, bindSpecialIfBound?]
    refine wpAny_holding (wpAny_bind (wpAny_bind (wpAny_bind (I.type.here ((looks_findIn X hn).here ?_)))))
    simp only [PySem.F.cmp_object.ne.bind]
    have fin : wpAny (model prog w) A (call (.builtin "object.__ne__") ([.ref x] ++ [b]) >>= fun v => pure (some v)) (fun r s' => ∃ c, r = some (.bool (!c)) ∧ Q (some (.bool (!c))) s') E s :=
      wpAny_bind (wpAny_mono go (fun v s' ⟨c, e, q⟩ => wpAny_pure ⟨c, by rw [e], q⟩) fun _ _ e => e)
    refine wpAny_bind (wpAny_askSetting (wpAny_ite ?_))
    split
    · exact wpAny_bind (wpAny_pure (wpAny_pure fin))
    · exact wpAny_tryCatch (wpAny_bind (wpAny_pure (wpAny_pure fin)))
  unfold tryCompare
  refine wpAny_bind (wpAny_mono one (fun r s' z => ?_) fun _ _ e => e)
  obtain ⟨c, rfl, q⟩ := z
  exact wpAny_pure q
theorem dt_ne {Q : Value → Shared → Prop} (hu : A.units + 1 < cLine) (X : K.In s.heap) (I : InstAt s.heap x ox C od) (hb : Looks (model prog w) s.heap (typeOf b) tb) (hnf : notFirst K C tb = true) (hs : findIn K (.ref C) "__eq__" = some (some (.ref f))) (hf : isFn K (.ref f) = true)
    (hn : findIn K (.ref C) "__ne__" = some (some (.builtin "object.__ne__"))) (ho : subIn K (.ref C) (.type "object") = some true)
    (h : wpAny (model prog w) A.in1 (call (.ref f) [.ref x, b]) (fun v s' => ∃ c, v = .bool c ∧ Q (.bool (!c)) s') E s) : wpAny (model prog w) A (richCompare .NotEq (.ref x) b) Q E s := by
  have one : wpAny (model prog w) A (tryCompare (.ref x) (cmpInfo .NotEq).2.1 b) (fun r s' => ∃ v, r = some v ∧ Q v s') E s := dt_neTry hu X I hs hf hn ho (wpAny_mono h (fun v s' ⟨c, e, q⟩ => ⟨c, e, _, rfl, q⟩) fun _ _ e => e)
  have end_ : ∀ {r : Option Value} {s' : Shared}, (∃ v, r = some v ∧ Q v s') → ∃ v, r = some v ∧ Q v s' := fun z => z
  unfold richCompare
  simp only [oneThing_ref]
  refine wpAny_holding (wpAny_bind (wpAny_cRoomFor (by omega) (wpAny_bind (I.type.here (wpAny_bind (hb.here ?_))))))
  split
  · rename_i q
    have e : subIn K tb (.ref C) = some false := by
      rcases Bool.or_eq_true_iff.mp hnf with e | e
      · rw [beq_iff_eq.mp e] at q; simp at q
      · exact beq_iff_eq.mp e
    refine wpAny_bind ((looks_subIn X e).here ?_)
    simp only [Bool.false_eq_true, if_false]
    refine wpAny_bind (wpAny_mono one (fun r s' z => ?_) fun _ _ e => e)
    obtain ⟨v, rfl, hq⟩ := z
    exact wpAny_pure hq
  · refine wpAny_bind (wpAny_pure ?_)
    simp only [Bool.false_eq_true, if_false]
    refine wpAny_bind (wpAny_mono one (fun r s' z => ?_) fun _ _ e => e)
    obtain ⟨v, rfl, hq⟩ := z
    exact wpAny_pure hq
end
end PySem.W
namespace Dt
open PySem PySem.Spec PyProof.Rows L2
/-- what == and != ask of the class at C, whose __eq__ is at g -/
structure EqC (K : PySem.W.Frag) (C g : Addr) : Prop where
  at_ : PySem.W.findIn K (.ref C) "__eq__" = some (some (.ref g))
  fn : PySem.W.isFn K (.ref g) = true
  ne : PySem.W.findIn K (.ref C) "__ne__" = some (some (.builtin "object.__ne__"))
  ob : PySem.W.subIn K (.ref C) (.type "object") = some true
def rOwnE (K : PySem.W.Frag) (C : Addr) (sp : Sp) (no : Bool) : R2 := fun x y H Q => ∃ a dx fs t, x = .ref a ∧ H a = some (.ins C dx fs) ∧ TyX K H y t ∧ PySem.W.notFirst K C t = true ∧ sp [x, y] H (fun z H' => ∃ b, z = .bl b ∧ Q (.bl (b != no)) H') E0
section
variable {X : Cx} {k j : Nat} {C g : Addr} {fd : FuncData} {ps : List Str} {sp : Sp}
theorem back_bl {pins : List (Addr × Obj)} {σ : L2.St} {H : Hp} {s : Shared} {A : Around} {Q : VK} {us : List Value} {vs : List V} (F : FnOk X.prog X.w X.K X.mg X.base (L2.CX X.prog X.w) j g fd ps sp) (hr : Room j A) (e0 : Env0 X.prog X.w X.K X.mg X.base A X.stack s H) (hb : Binds X.K fd ps []) (I : Inv X pins σ H s) (r : Vals vs us) (h : sp vs H Q E0) :
    wpAny (model X.prog X.w) A (call (.ref g) us) (EP X pins σ Q) X.xe s := by
  have hl : (us ++ []).length = ps.length := by
    rw [List.append_nil, ← r.length]
    exact F.len _ _ _ _ h
  have b := hb s us I.kIn hl
  rw [List.append_nil] at b
  refine wpAny_call (codeAny_mono (F.run A X.stack s H ⟨us, []⟩ us vs Q E0 hr e0 b r h) fun res s' hq => ?_)
  match res, hq with
  | .error e, hq => exact passL pins σ H s e s' I hq
  | .ok (.ret u), hq => exact I.after hq
  | .ok .next, hq => exact hq.elim
  | .ok .brk, hq => exact hq.elim
  | .ok .cont, hq => exact hq.elim
theorem op_ownEq (T : EqC X.K C g) (F : FnOk X.prog X.w X.K X.mg X.base (L2.CX X.prog X.w) j g fd ps sp) (hb : Binds X.K fd ps []) (hr : Room j X.A) : OpR X (compareOp .Eq) (rOwnE X.K C sp false) := by
  intro pins s σ H x y v u Q I rx ry h
  obtain ⟨a, dx, fs, t, rfl, ha, ty, hn, q⟩ := h
  cases (show v = Value.ref a from rx)
  obtain ⟨mA, O, _, _, _, _⟩ := ins_get I.hok ha
  obtain ⟨od, J, _⟩ := O.look
  obtain ⟨m, hF⟩ := I.fr
  obtain ⟨Pp, Kx, hp, _⟩ := kit_of I ry ty
  show wpAny (model X.prog X.w) X.A (richCompare .Eq (.ref a) u) (EP X pins σ Q) X.xe s
  refine PySem.W.cmp_K (op := .Eq) (tb := t) hr.units0 hF I.ok.mod.kin J (Kx.ty _ _ I.kIn hp) hn T.at_ T.fn ?_
  refine wpAny_mono (back_bl (us := [.ref a, u]) (vs := [.ref a, y]) F hr I.env0 hb I (.cons rfl (.cons ry .nil)) q) (fun w s' z => ?_) fun _ _ x => x
  obtain ⟨z', H', I', rz, b, eb, qz⟩ := z
  subst eb
  cases (show w = Value.bool b from rz)
  refine ⟨.bl b, H', I', rfl, ?_⟩
  have : (b != false) = b := by cases b <;> rfl
  rw [this] at qz
  exact qz
theorem op_ownNe (T : EqC X.K C g) (F : FnOk X.prog X.w X.K X.mg X.base (L2.CX X.prog X.w) j g fd ps sp) (hb : Binds X.K fd ps []) (hr : Room (j + 1) X.A) (hu : X.A.units + 1 < cLine) : OpR X (compareOp .NotEq) (rOwnE X.K C sp true) := by
  intro pins s σ H x y v u Q I rx ry h
  obtain ⟨a, dx, fs, t, rfl, ha, ty, hn, q⟩ := h
  cases (show v = Value.ref a from rx)
  obtain ⟨mA, O, _, _, _, _⟩ := ins_get I.hok ha
  obtain ⟨od, J, _⟩ := O.look
  obtain ⟨Pp, Kx, hp, _⟩ := kit_of I ry ty
  show wpAny (model X.prog X.w) X.A (richCompare .NotEq (.ref a) u) (EP X pins σ Q) X.xe s
  refine PySem.W.dt_ne (tb := t) hu I.kIn J (Kx.ty _ _ I.kIn hp) hn T.at_ T.fn T.ne T.ob ?_
  refine wpAny_mono (back_bl (us := [.ref a, u]) (vs := [.ref a, y]) F hr.in1 I.env0.in1 hb I (.cons rfl (.cons ry .nil)) q) (fun w s' z => ?_) fun _ _ x => x
  obtain ⟨z', H', I', rz, b, eb, qz⟩ := z
  subst eb
  cases (show w = Value.bool b from rz)
  refine ⟨b, rfl, .bl (!b), H', I', rfl, ?_⟩
  have : (b != true) = !b := by cases b <;> rfl
  rw [this] at qz
  exact qz
end
/-- == by the contract of __eq__, or by plain data -/
def ownEW (K : PySem.W.Frag) (C : Addr) (cf : Con) (no : Bool) (f : W2) : W2 := fun d e P => match d with
  | .ins C' fs => C' = C ∧ (∃ t, TyD K e t ∧ PySem.W.notFirst K C t = true) ∧ ∀ c n, cf c n [.ins C fs, e] fun n' r => n' = n ∧ asB r fun b => P (.bl (b != no))
  | _ => f d e P
theorem opd_ownE {K : PySem.W.Frag} {C : Addr} {cf : Con} {no : Bool} {r : R2} {f : W2} (h : OpD K r f) : OpD K (fun x y H Q => r x y H Q ∨ rOwnE K C (spOf K cf) no x y H Q) (ownEW K C cf no f) := fun Z n I H x y d e P Q w rx ry hf hq => by
  cases rx with
  | ins g0 r0 =>
    obtain ⟨rfl, ⟨t, h1, h2⟩, h3⟩ := hf
    refine .inr ⟨_, _, _, t, rfl, w.ih _ _ g0, tyD_x w ry h1, h2, Z, n, I, [.ins _ _, e], fun n' r => n' = n ∧ asB r fun b => P (.bl (b != no)), fun _ _ => False, w, .cons (.ins g0 r0) (.cons ry .nil), h3 _ n, fun d v n' I' H' s rv ⟨en, hb⟩ => ?_, XR.no⟩
    subst en
    obtain ⟨b, rfl, hP⟩ := bl_of rv hb
    exact ⟨b, rfl, hq _ _ I' H' s (.bl _) hP⟩
  | non => exact .inl (h Z n I H _ y _ e P Q w .non ry hf hq)
  | bl b => exact .inl (h Z n I H _ y _ e P Q w (.bl b) ry hf hq)
  | int b => exact .inl (h Z n I H _ y _ e P Q w (.int b) ry hf hq)
  | str b => exact .inl (h Z n I H _ y _ e P Q w (.str b) ry hf hq)
  | lst a b => exact .inl (h Z n I H _ y _ e P Q w (.lst a b) ry hf hq)
  | tup a b => exact .inl (h Z n I H _ y _ e P Q w (.tup a b) ry hf hq)
  | dct a b => exact .inl (h Z n I H _ y _ e P Q w (.dct a b) ry hf hq)
  | scr a => exact .inl (h Z n I H _ y _ e P Q w (.scr a) ry hf hq)
  | exc0 a b => exact .inl (h Z n I H _ y _ e P Q w (.exc0 a b) ry hf hq)
  | exc1 a b c d => exact .inl (h Z n I H _ y _ e P Q w (.exc1 a b c d) ry hf hq)
  | obj _ => exact .inl (h Z n I H _ y _ e P Q w (.obj _) ry hf hq)
/-- a class's __eq__ by name -/
structure GEq (P : Program) (w : World) (K : PySem.W.Frag) (mg : Str → Option Value) (base : Heap) (C : Addr) (j : Nat) (cf : Con) : Prop where
  ex : ∃ (g : Addr) (fd : FuncData) (ps : List Str), EqC K C g ∧ FnOk P w K mg base (L2.CX P w) j g fd ps (spOf K cf) ∧ Binds K fd ps []
section
variable {X : Cx} {E : XK} {k j : Nat} {q : Bool} {C : Addr} {cf : Con} {a b : Expr} {wa wb : WE} {pos : Pos}
theorem de_eqO (g : Gx X E k q) (G : GEq X.prog X.w X.K X.mg X.base C j cf) (ha : DE X E a wa) (hb : DE X E b wb) (hj : j ≤ k := by decide) : DE X E (.Compare a [.Eq] [b] pos) (wOp (ownEW X.K C cf false eqW) wa wb) := by
  obtain ⟨gg, fd, ps, T, F, hbd⟩ := G.ex
  exact de_cmp (((op_eqD g.u64).or op_eq).or (op_ownEq T F hbd (g.room.mono hj))) (opd_ownE opd_eq) ha hb (nomark _)
theorem de_neO (g : Gx X E k q) (G : GEq X.prog X.w X.K X.mg X.base C j cf) (ha : DE X E a wa) (hb : DE X E b wb) (hj : j + 1 ≤ k := by decide) : DE X E (.Compare a [.NotEq] [b] pos) (wOp (ownEW X.K C cf true neW) wa wb) := by
  obtain ⟨gg, fd, ps, T, F, hbd⟩ := G.ex
  exact de_cmp (((op_neD g.u64).or op_ne).or (op_ownNe T F hbd (g.room.mono hj) g.u1)) (opd_ownE opd_ne) ha hb (nomark _)
theorem dt_eqO (g : Gx X E k q) (G : GEq X.prog X.w X.K X.mg X.base C j cf) (ha : DE X E a wa) (hb : DE X E b wb) (hj : j ≤ k := by decide) : DT X E (.Compare a [.Eq] [b] pos) (wB (wOp (ownEW X.K C cf false eqW) wa wb)) := by
  obtain ⟨gg, fd, ps, T, F, hbd⟩ := G.ex
  exact dt_cmp (((op_eqD g.u64).or op_eq).or (op_ownEq T F hbd (g.room.mono hj))) (opd_ownE opd_eq) ha hb (nomark _)
theorem dt_neO (g : Gx X E k q) (G : GEq X.prog X.w X.K X.mg X.base C j cf) (ha : DE X E a wa) (hb : DE X E b wb) (hj : j + 1 ≤ k := by decide) : DT X E (.Compare a [.NotEq] [b] pos) (wB (wOp (ownEW X.K C cf true neW) wa wb)) := by
  obtain ⟨gg, fd, ps, T, F, hbd⟩ := G.ex
  exact dt_cmp (((op_neD g.u64).or op_ne).or (op_ownNe T F hbd (g.room.mono hj) g.u1)) (opd_ownE opd_ne) ha hb (nomark _)
end
end Dt

/-! DtW: an own __len__ that tells a tuple's length; texts compared; C(..) with defaults and keywords. -/
namespace Dt
open PySem PySem.Spec PyProof.Rows L2
/-! ### len(x) by the class's own __len__ -/
def spLen (K : PySem.W.Frag) (C : Addr) (o : Str) : Sp := fun vs H Q _ => ∃ a dx fs b ws, vs = [.ref a] ∧ H a = some (.ins C dx fs) ∧ fs.lookup o = some (.ref b) ∧ SqT K H b ws ∧ Q (.int ws.length) H
theorem len_of {P : Program} {w : World} {K : PySem.W.Frag} {mg : Str → Option Value} {base : Heap} {k : Nat} {x qual o : Str} {params : Arguments} {body : List Stmt} {scope : Scope} {f C : Addr} {fd : FuncData} {N ps : List Str}
    (F : FunD K x qual params body scope [] [] f fd) (S : FnScope N ps scope) (hN : N.length = 1) (hp : ps.length = 1) (c : Cls K C) (no : NoAttr K C o)
    (hbody : ∀ (cdv : Value) (A : Around) (outer : List Env) (s : Shared) (H : Hp) (E : XK), Gx (cxOf (L2.CX P w) P w K mg base N qual scope f cdv A outer s H E) E k false →
      PSs (cxOf (L2.CX P w) P w K mg base N qual scope f cdv A outer s H E) body (tRet (tCB (fun xs H Q => ∃ x n, xs = [x] ∧ LenV K x H n ∧ Q (.int n) H) (tCons (tFld K (tVar 0) o) tNil)))) : FnOk P w K mg base (L2.CX P w) (k + 1) f fd ps (spLen K C o) := by
  obtain ⟨oc, od, dV, kV, doc, pm, an, cdv, ct, osl, rfl, lk, hcd, _, _⟩ := F.ex
  refine fn_of lk hcd S (fun vs H Q E ⟨a, dx, fs, b, ws, e, _⟩ => by rw [e, hp]; rfl) fun A outer s H vs Q E hroom ⟨a, dx, fs, b, ws, e, ha, hl, hs, hq⟩ => ?_
  subst e
  refine ⟨_, hbody cdv A outer s H E ⟨passes_call (takes_of rfl rfl rfl rfl) (fun _ _ _ _ h => h), passes_of rfl, rfl, hroom, (fun z => nomatch z), S.nd, takes_of rfl rfl rfl rfl⟩, ?_⟩
  have es : L2.start N [.ref a] = [some (.ref a)] := by
    unfold L2.start
    rw [hN]
    rfl
  rw [es]
  exact ⟨_, rfl, a, C, dx, fs, .ref b, rfl, ha, c, no, hl, .ref b, ws.length, rfl, .inr ⟨_, hs, rfl⟩, hq⟩
structure GLen (P : Program) (w : World) (K : PySem.W.Frag) (mg : Str → Option Value) (base : Heap) (C : Addr) (o : Str) (j : Nat) : Prop where
  ex : ∃ (g : Addr) (fd : FuncData) (ps : List Str), PySem.W.findIn K (.ref C) "__len__" = some (some (.ref g)) ∧ PySem.W.isFn K (.ref g) = true ∧ FnOk P w K mg base (L2.CX P w) j g fd ps (spLen K C o) ∧ Binds K fd ps []
def rLenO (K : PySem.W.Frag) (C : Addr) (o : Str) : List V → Hp → VK → Prop := fun xs H Q => ∃ a dx fs b ws, xs = [.ref a] ∧ H a = some (.ins C dx fs) ∧ fs.lookup o = some (.ref b) ∧ SqT K H b ws ∧ Q (.int ws.length) H
section
variable {X : Cx} {E : XK} {k j : Nat} {q : Bool} {C : Addr} {o : Str} {e : Expr} {w : WE} {p pos : Pos}
theorem call_lenO (hr : Room (j + 1) X.A) (G : GLen X.prog X.w X.K X.mg X.base C o j) : CallR X (.builtin "len") (rLenO X.K C o) := by
  intro pins s σ H xs us Q I r h
  obtain ⟨a, dx, fs, b, ws, rfl, ha, hl, hs, hq⟩ := h
  obtain ⟨g, fd, ps, h1, h2, F, hb⟩ := G.ex
  obtain ⟨u, rfl, ru⟩ := r.one
  cases (show u = Value.ref a from ru)
  obtain ⟨mA, O, _, _, _, _⟩ := ins_get I.hok ha
  obtain ⟨od, J, _⟩ := O.look
  obtain ⟨m, hF⟩ := I.fr
  have sz : ws.length ≤ sizeLine := by
    obtain ⟨_, _, _, z⟩ := I.tuple hs
    exact z
  refine PySem.W.len_K hF I.ok.mod.kin J h1 h2 (wpAny_mono (back_bl (us := [.ref a]) (vs := [.ref a]) (Q := fun z H' => z = .int ws.length ∧ H' = H) F hr.in1 I.env0.in1 hb I (.cons rfl .nil) ⟨a, dx, fs, b, ws, rfl, ha, hl, hs, rfl, rfl⟩) (fun v s' z => ?_) fun _ _ x => x)
  obtain ⟨z', H', I', rz, e1, e2⟩ := z
  subst e1 e2
  obtain ⟨t, rfl⟩ := (show ∃ t, v = Value.int ws.length t from rz)
  refine ⟨⟨by omega, by rw [sizeLine_eq] at sz; omega⟩, .int ws.length, H', I'.tok _, ⟨_, rfl⟩, hq⟩
def lenOW (C : Addr) (o : Str) : WC
  | [.ins C' fs], P => C' = C ∧ ∃ xs, fs.lookup o = some (.tup xs) ∧ P (.int xs.length)
  | ds, P => lenW ds P
theorem cld_lenO {K : PySem.W.Frag} : ClD K (fun xs H Q => rLens K xs H Q ∨ rLenO K C o xs H Q) (lenOW C o) := fun Z n I H xs ds P Q w r hf hq => by
  unfold lenOW at hf
  split at hf
  · obtain ⟨rfl, ys, h1, h2⟩ := hf
    cases r with
    | cons r1 rr =>
      cases rr
      cases r1 with
      | ins g0 r0 =>
        obtain ⟨v, l, rv⟩ := r0.look h1
        cases rv with
        | tup hs rs => exact .inr ⟨_, _, _, _, _, rfl, w.ih _ _ g0, l, w.ih.sqT hs, hq _ _ I H w.refl (.int _) (by rw [rs.length]; exact h2)⟩
  · exact .inl (cld_len Z n I H xs _ P Q w r hf hq)
theorem de_lenO (g : Gx X E k q) (G : GLen X.prog X.w X.K X.mg X.base C o j) (h : X.mg "len" = none) (ha : DE X E e w) (hj : j + 1 ≤ k := by decide) (hg : Gl X "len" := by rfl) (he : starEach [e] X.env = (false, eval e X.env) :: starEach [] X.env := by rfl) :
    DE X E (.Call (.Name "len" p) [e] [] pos) (wCB (lenOW C o) (wCons w wNil)) :=
  de_callB ((call_len.or call_lenD).or (call_lenO (g.room.mono hj) G)) cld_lenO h rfl (da_cons ha da_nil he) hg (by decide) (by decide) he rfl
end
end Dt

/-! DtX: C(..) with defaults, C(k = v, ..). -/
namespace Dt
open PySem PySem.Spec PyProof.Rows L2
/-- C(ds) whose last parameters have the defaults dd -/
structure GMkD (P : Program) (w : World) (K : PySem.W.Frag) (mg : Str → Option Value) (base : Heap) (x : Str) (j : Nat) (dd : List D) (cf : Con) : Prop where
  ex : ∃ (f : Addr) (fd : FuncData) (ps : List Str) (dvs : List V) (us : List Value), FnOk P w K mg base (L2.CX P w) j f fd ps (spMk K (He.ga K x) cf) ∧ Mk K (He.ga K x) f ∧ mg x = some (.ref (He.ga K x)) ∧ Binds K fd ps us ∧ Vals dvs us ∧ ∀ I, RepL K I dvs dd
/-- C(k = v, ..), the names ks in any order: by p put in the parameters' order -/
structure GMkK (P : Program) (w : World) (K : PySem.W.Frag) (mg : Str → Option Value) (base : Heap) (x : Str) (j : Nat) (ks : List Str) (p : List D → List D) (cf : Con) : Prop where
  ex : ∃ (f : Addr) (fd : FuncData) (ps : List Str) (g : List Value → List Value → List Value) (gV : List V → List V → List V), FnOk P w K mg base (L2.CX P w) j f fd ps (spMk K (He.ga K x) cf) ∧ Mk K (He.ga K x) f ∧ mg x = some (.ref (He.ga K x)) ∧ KBn K fd ps 1 ks g gV ∧
    ∀ (a : V) (zs : List V) (I : Hp) (ds : List D), RepL K I zs ds → ds.length = ks.length → ∃ ws, gV [a] zs = a :: ws ∧ RepL K I ws (p ds)
section
variable {X : Cx} {E : XK} {k j : Nat} {q : Bool} {e : Expr} {es : List Expr} {wa : WA} {we : WE} {p pos kpos : Pos} {x : Str} {cf : Con} {dd : List D} {kws : List Keyword} {nm : Option Str} {ks : List Str} {pm : List D → List D}
def wCallD (cf : Con) (dd : List D) (wa : WA) : WE := fun c n δ P => wa c n δ fun n1 ds => cf c n1 (ds ++ dd) P
theorem de_makeD (g : Gx X E k q) (F : GMkD X.prog X.w X.K X.mg X.base x j dd cf) (ha : DA X E (e :: es) wa) (hj : j + 1 ≤ k := by decide) (hg : Gl X x := by rfl) (hdb : (x == ("__debug__" : Str)) = false := by decide)
    (he : starEach (e :: es) X.env = (false, eval e X.env) :: starEach es X.env := by rfl) (hpl : (backTo pos (starEach es X.env)).any (·.1) = false := by rfl) : DE X E (.Call (.Name x p) (e :: es) [] pos) (wCallD cf dd wa) := by
  obtain ⟨f, fd, ps, dvs, us, F1, M, hm, hb, hv, hr⟩ := F.ex
  obtain ⟨t, pa, sa⟩ := ha
  refine ⟨_, pe_make M F1 (g.room.mono hj) hg hm hb hv g.pass pa hdb he hpl, fun Z I0 H0 cx n δ σ I H P Q hx he hw hq => sa Z I0 H0 cx n δ σ I H _ _ hx he hw fun ds vs n1 I1 H1 s1 r1 h1 x dx h2 h3 h4 => ?_⟩
  exact ⟨x, dx, vs ++ dvs, Z, n1, I1, H1, ds ++ dd, P, cx, rfl, rfl, h2, h3, h4, s1.wk, r1.append (hr I1), h1, fun d n2 I2 H2 s2 r2 hP => ⟨rfl, hq d _ n2 I2 H2 (s1.trans s2) r2 hP⟩, hx.rebase (he.st.trans s1)⟩
def DK (X : Cx) (E : XK) (kws : List Keyword) (w : WA) : Prop := ∃ t, PK X kws t ∧ SA X.K E t w
theorem dk_nil : DK X E [] wNil := ⟨_, pk_nil, fun Z I0 H0 cx n δ σ I H P Q hx he hw hq => hq [] [] n I H he.wk.refl .nil hw⟩
theorem dk_cons (ha : DE X E e we) (hr : DK X E kws wa) : DK X E (⟨nm, e, kpos⟩ :: kws) (wCons we wa) := by
  obtain ⟨_, pa, sa⟩ := ha
  obtain ⟨_, pr, sr⟩ := hr
  exact ⟨_, pk_cons pa pr, fun Z I0 H0 cx n δ σ I H P Q hx he hw hq =>
    sa Z I0 H0 cx n δ σ I H _ _ hx he hw fun d v n1 I1 H1 s1 r1 h1 => sr Z I0 H0 cx n1 δ σ I1 H1 _ _ hx (he.step s1) h1 fun ds vs n2 I2 H2 s2 r2 h2 => hq (d :: ds) (v :: vs) n2 I2 H2 (s1.trans s2) (.cons (r1.mono s2.ex) r2) h2⟩
def wCallK (cf : Con) (m : Nat) (pm : List D → List D) (wa : WA) : WE := fun c n δ P => wa c n δ fun n1 ds => ds.length = m ∧ cf c n1 (pm ds) P
theorem de_makeK (g : Gx X E k q) (F : GMkK X.prog X.w X.K X.mg X.base x j ks pm cf) (hk : DK X E kws wa) (hj : j + 1 ≤ k := by decide) (hg : Gl X x := by rfl) (hall : (backToKw pos (keywordEach kws X.env)).all (·.1.isSome) = true := by rfl) (hks : (backToKw pos (keywordEach kws X.env)).filterMap (·.1) = ks := by rfl) (hdb : (x == ("__debug__" : Str)) = false := by decide)
    (hpl : ((backTo pos (starEach [] X.env)).any (·.1) || (backToKw pos (keywordEach kws X.env)).any (·.1.isNone)) = false := by rfl) : DE X E (.Call (.Name x p) [] kws pos) (wCallK cf ks.length pm wa) := by
  obtain ⟨f, fd, ps, gg, gV, F1, M, hm, hb, hr⟩ := F.ex
  obtain ⟨t, pk, sk⟩ := hk
  refine ⟨_, pe_makeK0 M F1 (g.room.mono hj) hg hm hb g.pass pk hall hks hdb hpl, fun Z I0 H0 cx n δ σ I H P Q hx he hw hq => sk Z I0 H0 cx n δ σ I H _ _ hx he hw fun ds vs n1 I1 H1 s1 r1 ⟨hl, h1⟩ => ⟨rfl, by rw [r1.length]; exact hl, fun x dx h2 h3 h4 => ?_⟩⟩
  obtain ⟨ws, e1, r2⟩ := hr (.ref x) vs I1 ds r1 hl
  rw [e1]
  exact ⟨x, dx, ws, Z, n1, I1, H1, pm ds, P, cx, rfl, rfl, h2, h3, h4, s1.wk, r2, h1, fun d n2 I2 H2 s2 r2 hP => ⟨rfl, hq d _ n2 I2 H2 (s1.trans s2) r2 hP⟩, hx.rebase (he.st.trans s1)⟩
end
end Dt

/-! DtY: young things kept for the while; lists in a list that are cleared. -/
namespace Dt
open PySem PySem.Spec PyProof.Rows L2
section
variable {K : PySem.W.Frag} {Z : Res} {n n1 : Nat} {I0 H0 I H I1 H1 : Hp} {δ : List Sl} {σ : L2.St} {S : Addr → Prop}
/-- the things of S are young -/
structure Yng (Z : Res) (H0 I H : Hp) (S : Addr → Prop) : Prop where
  i : ∀ a, S a → I a = none
  f : ∀ a, S a → ¬ Z.F a
  h0 : ∀ a, S a → H0 a = none
  h : ∀ a, S a → ∃ o, H a = some o ∧ ¬ noCell o
open Classical in
noncomputable def fzI (S : Addr → Prop) (I H : Hp) : Hp := fun a => if S a then H a else I a
open Classical in
noncomputable def ufI (S : Addr → Prop) (I : Hp) : Hp := fun a => if S a then none else I a
theorem fz_in {a : Addr} (h : S a) : fzI S I H a = H a := by unfold fzI; rw [if_pos h]
theorem fz_out {a : Addr} (h : ¬ S a) : fzI S I H a = I a := by unfold fzI; rw [if_neg h]
theorem uf_in {a : Addr} (h : S a) : ufI S I a = none := by unfold ufI; rw [if_pos h]
theorem uf_out {a : Addr} (h : ¬ S a) : ufI S I a = I a := by unfold ufI; rw [if_neg h]
theorem Yng.le (y : Yng Z H0 I H S) : Le I (fzI S I H) := fun a u q => by
  have : ¬ S a := fun z => by rw [y.i a z] at q; cases q
  rw [fz_out this]
  exact q
/-- all own slots are not in S -/
theorem Ev.fz (e : Ev K Z I0 H0 n δ σ I H) (y : Yng Z H0 I H S) (no : ∀ a, OwnA δ σ a → ¬ S a) : Ev K Z I0 H0 n δ σ (fzI S I H) H where
  st := by
    refine ⟨⟨fun a u q => ?_, e.st.wk.j, fun a f => ?_, e.st.wk.zl⟩, e.st.ex.trans y.le, e.st.kp, fun a h n => ?_⟩
    · by_cases z : S a
      · rw [fz_in z] at q
        exact q
      · rw [fz_out z] at q
        exact e.st.wk.ih a u q
    · rw [fz_out (fun z => y.f a z f)]
      exact e.st.wk.zf a f
    · rw [fz_out (fun z => n (y.h0 a z))]
      exact e.st.nw a h n
  len := e.len
  vals := fun i d h => by
    obtain ⟨v, h1, h2⟩ := e.vals i d h
    exact ⟨v, h1, h2.mono y.le⟩
  owns := fun i d h => by
    obtain ⟨a, h1, h2, h3, h4, h5⟩ := e.owns i d h
    exact ⟨a, h1, by rw [fz_out (no a ⟨i, d, h, h1⟩)]; exact h2, h3, h4, h5.step y.le fun o z => z⟩
  sep := e.sep
theorem Yng.back (y : Yng Z H0 I H S) (w : Wk Z n I H) (s : Stp Z (fzI S I H) H n1 I1 H1) : Stp Z I H n1 (ufI S I1) H1 where
  wk := ⟨fun a u q => by
    by_cases z : S a
    · rw [uf_in z] at q
      cases q
    · rw [uf_out z] at q
      exact s.wk.ih a u q, s.wk.j, fun a f => by
    by_cases z : S a
    · exact uf_in z
    · rw [uf_out z]
      exact s.wk.zf a f, s.wk.zl⟩
  ex := fun a u q => by
    have z : ¬ S a := fun z => by rw [y.i a z] at q; cases q
    rw [uf_out z]
    exact s.ex a u (by rw [fz_out z]; exact q)
  kp := s.kp
  nw := fun a h n => by
    by_cases z : S a
    · exact uf_in z
    · rw [uf_out z]
      exact s.nw a (by rw [fz_out z]; exact h) n
theorem Yng.backI (y : Yng Z H0 I H S) (s : Stp Z (fzI S I H) H n1 I1 H1) : ∀ a o, I1 a = some o → noCell o → ufI S I1 a = some o := fun a o h n => by
  by_cases z : S a
  · obtain ⟨u, hu, nu⟩ := y.h a z
    have : I1 a = some u := s.ex a u (by rw [fz_in z]; exact hu)
    rw [h] at this
    cases this
    exact absurd n nu
  · rw [uf_out z]
    exact h
end
/-! ### more cells of one's own -/
def Res.add (Z : Res) (ps : List Addr) : Res where
  F := fun a => Z.F a ∨ a ∈ ps
  J := fun n H => Z.J n H ∧ ∀ p ∈ ps, ∃ vs, H p = some (.lst vs)
  loc := fun n H H' k ⟨j, l⟩ => ⟨Z.loc n H H' (fun a f => k a (.inl f)) j, fun p hp => by rw [k p (.inr hp)]; exact l p hp⟩
  mono := fun n m H h ⟨j, l⟩ => ⟨Z.mono n m H h j, l⟩
/-- the list at p may be cleared -/
def Clr (Z : Res) (p : Addr) : Prop := Z.F p ∧ ∀ n H, Z.J n H → ∃ vs, H p = some (.lst vs) ∧ Z.J n (upd H p (.lst []))
theorem clr_add {Z : Res} {ps : List Addr} {p : Addr} (hp : p ∈ ps) (hf : ¬ Z.F p) : Clr (Z.add ps) p := ⟨.inr hp, fun n H ⟨j, l⟩ => by
  obtain ⟨vs, h⟩ := l p hp
  refine ⟨vs, h, Z.loc n H _ (fun a f => upd_ne (fun z => hf (z ▸ f))) j, fun q hq => ?_⟩
  by_cases e : q = p
  · exact ⟨[], by rw [e, upd_same]⟩
  · rw [upd_ne e]
    exact l q hq⟩
section
variable {X : Cx} {E : XK} {x : Str} {np apos cpos pos : Pos}
def wClr (i : Nat) : WS := fun c De n δ => match δ[i]? with
  | some (.v (.obj (.ref p))) => Clr c.Z p ∧ De.nx n δ
  | _ => False
theorem ds_clr (i : Nat) (hN : X.N[i]? = some x := by rfl) (hv : Vis X.env.scope x := by first | exact Or.inl rfl | exact Or.inr (Or.inl rfl) | exact Or.inr (Or.inr rfl)) (hd : (x == ("__debug__" : Str)) = false := by decide) (hcd : (x == ("__classdict__" : Str)) = false := by decide)
    (hbase : attributeBase (.Name x np) "clear" X.env (eval (.Name x np) X.env) = eval (.Name x np) X.env := by rfl) (hline : (apos.endLine == cpos.line) = true := by rfl)
    (hsw : swapsWith (.Call (.Attribute (.Name x np) "clear" apos) [] [] cpos) none pos.line X.env = pure false := by rfl) : DS X E (.Expr (.Call (.Attribute (.Name x np) "clear" apos) [] [] cpos) pos) (wClr i) := by
  refine ⟨_, ps_expr (pe_bm0 PySem.F.plainAttrs_list PySem.F.slot_list_clear PySem.F.type_list_clear mt_clear (pe_var hN hv hd hcd) hbase hline) hsw, fun Z I0 H0 cx De D' n δ σ I H hx ho he hw => ?_⟩
  unfold wClr at hw
  split at hw
  · rename_i p h
    obtain ⟨⟨hf, hc⟩, hn⟩ := hw
    obtain ⟨v, h1, h2⟩ := he.vals i _ h
    cases h2
    obtain ⟨vs, h3, h4⟩ := hc n H he.wk.j
    have ip : I p = none := he.wk.zf p hf
    have st : Stp Z I H n I (upd H p (.lst [])) := ⟨⟨fun a o e => by rw [upd_ne (fun z => by rw [z, ip] at e; cases e)]; exact he.wk.ih a o e, h4, he.wk.zf, fun a f => by
      by_cases z : a = p
      · rw [z, upd_same]; exact fun y => nomatch y
      · rw [upd_ne z]; exact he.wk.zl a f⟩, Le.refl _, fun a o f e => by rw [upd_ne (fun (z : a = p) => f (by rw [z]; exact hf))]; exact e, fun a e _ => e⟩
    exact ⟨_, h1, .inl ⟨rfl, _, .inl (.inl h3)⟩, p, vs, rfl, rfl, h3, ho.nx n δ σ I _ (Le.refl _) (he.step st) hn⟩
  · exact hw.elim
end
end Dt

/-! DtZ: g = [l1, l2, l3]; k = f(g[0], ..); for s in g: s.clear(). -/
namespace Dt
open PySem PySem.Spec PyProof.Rows L2
def noOwn (δ : List Sl) : Prop := ∀ (i : Nat) (d : D), δ[i]? ≠ some (Sl.o d)
theorem noOwn_set {δ : List Sl} {i : Nat} {s : Sl} (h : noOwn δ) (hs : ∀ d, s ≠ .o d) : noOwn (δ.set i s) := fun j d e => by
  by_cases q : i = j
  · subst q
    by_cases l : i < δ.length
    · rw [List.getElem?_set_self l] at e
      exact hs d (Option.some.inj e)
    · rw [List.getElem?_eq_none (by simpa using l)] at e
      cases e
  · rw [List.getElem?_set_ne q] at e
    exact h j d e
section
variable {K : PySem.W.Frag} {Z : Res} {n : Nat} {I0 H0 I H I' H' : Hp} {δ : List Sl} {σ : L2.St}
/-- slots without own things, over any heaps that hold the data -/
theorem Ev.of (e : Ev K Z I0 H0 n δ σ I H) (no : noOwn δ) {Z' : Res} {n' : Nat} {I0' H0' : Hp} (l : Le I I') (s : Stp Z' I0' H0' n' I' H') : Ev K Z' I0' H0' n' δ σ I' H' :=
  ⟨s, e.len, fun i d h => by
    obtain ⟨v, h1, h2⟩ := e.vals i d h
    exact ⟨v, h1, h2.mono l⟩, fun i d h => absurd h (no i d), fun i j d f a h _ _ _ => absurd h (no i d)⟩
theorem Ev.forget (e : Ev K Z I0 H0 n δ σ I H) (no : noOwn δ) (i : Nat) : Ev K Z I0 H0 n (δ.set i .un) σ I H := by
  have no' := noOwn_set (i := i) no (s := .un) (fun _ z => nomatch z)
  refine ⟨e.st, by rw [List.length_set]; exact e.len, fun j d h => ?_, fun j d h => absurd h (no' j d), fun j k d f a h _ _ _ => absurd h (no' j d)⟩
  by_cases q : i = j
  · subst q
    by_cases l : i < δ.length
    · rw [List.getElem?_set_self l] at h
      cases h
    · rw [List.getElem?_eq_none (by simpa using l)] at h
      cases h
  · rw [List.getElem?_set_ne q] at h
    exact e.vals j d h
end
theorem clr_at {c : Ct} {De : DEnds} {n m : Nat} {δ : List Sl} {p : Addr} (l : m < δ.length) (h : Clr c.Z p) (hn : De.nx n (δ.set m (.v (.obj (.ref p))))) : wClr m c De n (δ.set m (.v (.obj (.ref p)))) := by
  unfold wClr
  rw [List.getElem?_set_self l]
  exact ⟨h, hn⟩
def asL : D → (List D → Prop) → Prop
  | .lst xs, P => P xs
  | _, _ => False
def wGive (i j m : Nat) (w1 w2 w3 wk : WE) (wr : WS) : WS := fun c De n δ => (noOwn δ ∧ i ≠ j ∧ i ≠ m ∧ j ≠ m ∧ i < δ.length ∧ m < δ.length) ∧ w1 c n δ fun n1 d1 => asL d1 fun x1 => w2 c n1 δ fun n2 d2 => asL d2 fun x2 => w3 c n2 δ fun n3 d3 => asL d3 fun x3 =>
  wk c n3 (δ.set i (.v (.lst [.lst x1, .lst x2, .lst x3]))) fun n4 d4 => imm d4 = true ∧ wr c De n4 (((δ.set j (.v d4)).set i .un).set m .un)
theorem own_lst {K : PySem.W.Frag} {I H : Hp} {a : Addr} {d : D} {P : List D → Prop} (o : OwnC K I H a d) (h : asL d P) : ∃ xs vs, d = .lst xs ∧ H a = some (.lst vs) ∧ RepL K I vs xs ∧ P xs := by
  cases d with
  | lst xs =>
    obtain ⟨vs, h1, h2⟩ := o
    exact ⟨xs, vs, rfl, h1, h2, h⟩
  | _ => exact h.elim
section
variable {X : Cx} {E : XK} {k : Nat} {q : Bool} {e1 e2 e3 ek : Expr} {w1 w2 w3 wk : WE} {wr : WS} {lp : Stmt} {rest : List Stmt} {x y : Str} {p1 p2 p3 p4 p5 : Pos}
theorem dss_give (g : Gx X E k q) (i j m : Nat) (h1 : DF X E e1 w1) (h2 : DF X E e2 w2) (h3 : DF X E e3 w3) (hk : DE X E ek wk) (hl : DS X E lp (wForS (wItems (wVar i)) (gN m) (wClr m))) (hr : DSs X E rest wr)
    (hi : X.N[i]? = some x := by rfl) (hj : X.N[j]? = some y := by rfl) (hx : Loc X.env.scope x := by first | exact Or.inl rfl | exact Or.inr rfl) (hy : Loc X.env.scope y := by first | exact Or.inl rfl | exact Or.inr rfl)
    (hs1 : swapsWith (.List [e1, e2, e3] p1) (some (.Name x p2)) p3.line X.env = pure false := by rfl) (hs2 : swapsWith ek (some (.Name y p4)) p5.line X.env = pure false := by rfl)
    (hf : X.fn x = true ∨ X.env.scope.names.lookup x = some .local := by first | exact .inl rfl | exact .inr rfl | assumption) (hf2 : X.fn y = true ∨ X.env.scope.names.lookup y = some .local := by first | exact .inl rfl | exact .inr rfl | assumption)
    (hst1 : starEach [e1, e2, e3] X.env = (false, eval e1 X.env) :: starEach [e2, e3] X.env := by rfl) (hst2 : starEach [e2, e3] X.env = (false, eval e2 X.env) :: starEach [e3] X.env := by rfl) (hst3 : starEach [e3] X.env = (false, eval e3 X.env) :: starEach [] X.env := by rfl) :
    DSs X E (.Assign [.Name x p2] (.List [e1, e2, e3] p1) p3 :: .Assign [.Name y p4] ek p5 :: lp :: rest) (wGive i j m w1 w2 w3 wk wr) := by
  obtain ⟨_, q1, s1⟩ := h1
  obtain ⟨_, q2, s2⟩ := h2
  obtain ⟨_, q3, s3⟩ := h3
  obtain ⟨_, qk, sk⟩ := hk
  obtain ⟨_, ql, sl⟩ := hl
  obtain ⟨_, qr, sr⟩ := hr
  refine ⟨_, pss_cons (ps_set g.nd hi hx (pe_lst (pa_cons q1 (pa_cons q2 (pa_cons q3 pa_nil hst3) hst2) hst1)) hs1 hf) (pss_cons (ps_set g.nd hj hy qk hs2 hf2) (pss_cons ql qr)), fun Z I0 H0 cx De D' n δ σ I H hx ho he hw => ?_⟩
  obtain ⟨⟨no, nij, nim, njm, li, lm⟩, hw⟩ := hw
  refine s1 Z I0 H0 cx n δ σ I H _ _ hx he hw fun d1 a1 n1 I1 H1 t1 f1 g1 u1 o1 hw => ?_
  obtain ⟨x1, v1, rfl, c1, r1, hw⟩ := own_lst o1 hw
  have e1' := he.step t1
  refine s2 Z I0 H0 cx n1 δ σ I1 H1 _ _ hx e1' hw fun d2 a2 n2 I2 H2 t2 f2 g2 u2 o2 hw => ?_
  obtain ⟨x2, v2, rfl, c2, r2, hw⟩ := own_lst o2 hw
  have e2' := e1'.step t2
  refine s3 Z I0 H0 cx n2 δ σ I2 H2 _ _ hx e2' hw fun d3 a3 n3 I3 H3 t3 f3 g3 u3 o3 hw => ?_
  obtain ⟨x3, v3, rfl, c3, r3, hw⟩ := own_lst o3 hw
  have e3' := e2'.step t3
  have lv : ∀ {o : HO}, some o ≠ (none : Option HO) := fun z => nomatch z
  have c1' : H3 a1 = some (.lst v1) := t3.kp a1 _ u1 (t2.kp a1 _ u1 c1)
  have c2' : H3 a2 = some (.lst v2) := t3.kp a2 _ u2 c2
  have i1 : I3 a1 = none := t3.nw a1 (t2.nw a1 g1 (by rw [c1]; exact lv)) (by rw [t2.kp a1 _ u1 c1]; exact lv)
  have i2 : I3 a2 = none := t3.nw a2 g2 (by rw [c2]; exact lv)
  refine ⟨by show 3 ≤ sizeLine; rw [sizeLine_eq]; omega, fun b hb => ?_⟩
  have ub := t3.wk.nf hb
  have ib : I3 b = none := t3.wk.ih.free hb
  have n1b : a1 ≠ b := fun z => by rw [z, hb] at c1'; cases c1'
  have n2b : a2 ≠ b := fun z => by rw [z, hb] at c2'; cases c2'
  have n3b : a3 ≠ b := fun z => by rw [z, hb] at c3; cases c3
  have e4 := e3'.step (t3.wk.young (o := .lst [.ref a1, .ref a2, .ref a3]) hb)
  have k1 : upd H3 b (.lst [.ref a1, .ref a2, .ref a3]) a1 = some (.lst v1) := by rw [upd_ne n1b]; exact c1'
  have k2 : upd H3 b (.lst [.ref a1, .ref a2, .ref a3]) a2 = some (.lst v2) := by rw [upd_ne n2b]; exact c2'
  have k3 : upd H3 b (.lst [.ref a1, .ref a2, .ref a3]) a3 = some (.lst v3) := by rw [upd_ne n3b]; exact c3
  have k4 : upd H3 b (.lst [.ref a1, .ref a2, .ref a3]) b = some (.lst [.ref a1, .ref a2, .ref a3]) := upd_same
  generalize upd H3 b (.lst [.ref a1, .ref a2, .ref a3]) = H4 at e4 k1 k2 k3 k4 ⊢
  have z1 : H0 a1 = none := he.base0 f1
  have z2 : H0 a2 = none := e1'.base0 f2
  have z3 : H0 a3 = none := e2'.base0 f3
  have zb : H0 b = none := e3'.base0 hb
  let S : Addr → Prop := fun a => a = a1 ∨ a = a2 ∨ a = a3 ∨ a = b
  have nc : ∀ vs, ¬ noCell (.lst vs) := fun _ z => z
  have yy : Yng Z H0 I3 H4 S := ⟨fun a h => by rcases h with h | h | h | h <;> rw [h] <;> assumption, fun a h => by rcases h with h | h | h | h <;> rw [h] <;> assumption, fun a h => by rcases h with h | h | h | h <;> rw [h] <;> assumption, fun a h => by
    rcases h with h | h | h | h
    · exact ⟨_, by rw [h]; exact k1, nc _⟩
    · exact ⟨_, by rw [h]; exact k2, nc _⟩
    · exact ⟨_, by rw [h]; exact k3, nc _⟩
    · exact ⟨_, by rw [h]; exact k4, nc _⟩⟩
  have e5 := e4.fz yy (fun a ⟨i', d', h', _⟩ => absurd h' (no i' d'))
  have s1m : S a1 := .inl rfl
  have s2m : S a2 := .inr (.inl rfl)
  have s3m : S a3 := .inr (.inr (.inl rfl))
  have sbm : S b := .inr (.inr (.inr rfl))
  have l31 : Le I1 (fzI S I3 H4) := (t2.ex.trans t3.ex).trans yy.le
  have l32 : Le I2 (fzI S I3 H4) := t3.ex.trans yy.le
  have rg : Rep X.K (fzI S I3 H4) (.ref b) (.lst [.lst x1, .lst x2, .lst x3]) := .lst (by rw [fz_in sbm]; exact k4) (.cons (.lst (by rw [fz_in s1m]; exact k1) (r1.mono l31)) (.cons (.lst (by rw [fz_in s2m]; exact k2) (r2.mono l32)) (.cons (.lst (by rw [fz_in s3m]; exact k3) (r3.mono yy.le)) .nil)))
  refine sk Z I0 H0 cx n3 _ _ _ _ _ _ hx (e5.put (i := i) rg) hw fun d4 v n4 I5 H5 t5 r5 ⟨im, hw⟩ => ?_
  have bk := yy.back e4.wk t5
  have rv := r5.imm (yy.backI t5) im
  have hb5 : H5 b = some (.lst [.ref a1, .ref a2, .ref a3]) := t5.kp b _ ub k4
  have st6 := (e4.step bk).st.keep zb ub (uf_in sbm) hb5
  have lb : Le (ufI S I5) (upd (ufI S I5) b (.lst [.ref a1, .ref a2, .ref a3])) := Le.new (uf_in sbm)
  have e7 := (e4.step bk).of no lb st6
  have rb : Rep X.K (upd (ufI S I5) b (.lst [.ref a1, .ref a2, .ref a3])) (.ref b) (.lst [.obj (.ref a1), .obj (.ref a2), .obj (.ref a3)]) := .lst upd_same (.cons (.obj _) (.cons (.obj _) (.cons (.obj _) .nil)))
  have e8 := (e7.put (i := i) rb).put (i := j) (rv.mono lb)
  have no2 : noOwn ((δ.set i (.v (.lst [.obj (.ref a1), .obj (.ref a2), .obj (.ref a3)]))).set j (.v d4)) := noOwn_set (noOwn_set no fun _ z => nomatch z) fun _ z => nomatch z
  have l1 : H5 a1 = some (.lst v1) := t5.kp a1 _ u1 k1
  have l2 : H5 a2 = some (.lst v2) := t5.kp a2 _ u2 k2
  have l3 : H5 a3 = some (.lst v3) := t5.kp a3 _ u3 k3
  have hin : ∀ p ∈ [a1, a2, a3], ∃ vs, H5 p = some (.lst vs) := fun p hp => by
    simp only [List.mem_cons, List.not_mem_nil, or_false] at hp
    rcases hp with h | h | h
    · exact ⟨_, by rw [h]; exact l1⟩
    · exact ⟨_, by rw [h]; exact l2⟩
    · exact ⟨_, by rw [h]; exact l3⟩
  have hne : ∀ p ∈ [a1, a2, a3], p ≠ b ∧ S p ∧ ¬ Z.F p ∧ H0 p = none := fun p hp => by
    simp only [List.mem_cons, List.not_mem_nil, or_false] at hp
    rcases hp with h | h | h
    · rw [h]; exact ⟨n1b, s1m, u1, z1⟩
    · rw [h]; exact ⟨n2b, s2m, u2, z2⟩
    · rw [h]; exact ⟨n3b, s3m, u3, z3⟩
  have hI6 : ∀ p ∈ [a1, a2, a3], upd (ufI S I5) b (.lst [.ref a1, .ref a2, .ref a3]) p = none := fun p hp => by
    rw [upd_ne (hne p hp).1]
    exact uf_in (hne p hp).2.1
  have lI : Le I (upd (ufI S I5) b (.lst [.ref a1, .ref a2, .ref a3])) := (((t1.ex.trans t2.ex).trans t3.ex).trans bk.ex).trans lb
  clear rb e7
  generalize upd (ufI S I5) b (.lst [.ref a1, .ref a2, .ref a3]) = I6 at st6 e8 hI6 lI
  have wk' : Wk (Z.add [a1, a2, a3]) n4 I6 H5 := ⟨st6.wk.ih, ⟨st6.wk.j, hin⟩, fun a f => by
    rcases f with f | f
    · exact st6.wk.zf a f
    · exact hI6 a f, fun a f => by
    rcases f with f | f
    · exact st6.wk.zl a f
    · obtain ⟨vs, h⟩ := hin a f
      rw [h]
      exact lv⟩
  have e9 := e8.of no2 (Le.refl _) wk'.refl
  have hgi : ((δ.set i (.v (.lst [.obj (.ref a1), .obj (.ref a2), .obj (.ref a3)]))).set j (.v d4))[i]? = some (.v (.lst [.obj (.ref a1), .obj (.ref a2), .obj (.ref a3)])) := by
    rw [List.getElem?_set_ne (Ne.symm nij), List.getElem?_set_self li]
  have lm2 : m < ((δ.set i (.v (.lst [.obj (.ref a1), .obj (.ref a2), .obj (.ref a3)]))).set j (.v d4)).length := by
    rw [List.length_set, List.length_set]
    exact lm
  have cl : ∀ p ∈ [a1, a2, a3], Clr (Z.add [a1, a2, a3]) p := fun p hp => clr_add hp (hne p hp).2.2.1
  have fin : ∀ (δ5 : List Sl), δ5 = ((δ.set i (.v (.lst [.obj (.ref a1), .obj (.ref a2), .obj (.ref a3)]))).set j (.v d4)).set m (.v (.obj (.ref a3))) → (δ5.set i .un).set m .un = ((δ.set j (.v d4)).set i .un).set m .un := fun δ5 e => by
    rw [e, List.set_comm _ _ (Ne.symm nim), List.set_set, List.set_comm _ _ (Ne.symm nij), List.set_set, List.set_comm _ _ nij]
  generalize hδ2 : (δ.set i (.v (.lst [.obj (.ref a1), .obj (.ref a2), .obj (.ref a3)]))).set j (.v d4) = δ2 at *
  refine sl (Z.add [a1, a2, a3]) I6 H5 (fun _ _ => False) ⟨fun n' δ' => n' = n4 ∧ δ' = δ2.set m (.v (.obj (.ref a3))), fun _ _ => False, fun _ _ => False, fun _ _ => False⟩ _ n4 δ2 _ I6 H5 XR.no ⟨fun n5 δ5 σ5 I7 H7 l7 e10 ⟨en, ed⟩ => ?_, fun _ _ _ _ _ _ _ h => h.elim, fun _ _ _ _ _ _ _ h => h.elim, fun _ _ _ _ _ _ _ h => h.elim⟩ e9 ?_
  · subst en
    have no5 : noOwn δ5 := by
      rw [ed]
      exact noOwn_set no2 fun _ z => nomatch z
    have nf : ∀ a, ¬ Z.F a → H0 a ≠ none → ¬ (Z.add [a1, a2, a3]).F a := fun a f h z => by
      rcases z with z | z
      · exact f z
      · exact h (hne a z).2.2.2
    have st11 : Stp Z I0 H0 n5 I7 H7 := ⟨⟨e10.wk.ih, e10.wk.j.1, fun a f => e10.wk.zf a (.inl f), fun a f => e10.wk.zl a (.inl f)⟩, st6.ex.trans e10.st.ex, fun a o f h => e10.st.kp a o (nf a f (by rw [h]; exact lv)) (st6.kp a o f h), fun a h hh => e10.st.nw a (st6.nw a h hh) (st6.live hh)⟩
    have e12 := ((e10.of no5 (Le.refl _) st11).forget no5 i).forget (noOwn_set no5 fun _ z => nomatch z) m
    rw [fin δ5 ed] at e12
    exact sr Z I0 H0 cx De D' n5 _ σ5 I7 H7 hx (ho.mono (lI.trans e10.st.ex)) e12 hw
  · unfold wForS wItems wVar
    dsimp only
    rw [hgi]
    refine ⟨_, rfl, ?_⟩
    have c1 := cl a1 (by simp)
    have c2 := cl a2 (by simp)
    have c3 := cl a3 (by simp)
    refine clr_at lm2 c1 ?_
    refine clr_at (by rw [List.length_set]; exact lm2) c2 ?_
    refine clr_at (by rw [List.length_set, List.length_set]; exact lm2) c3 ?_
    exact ⟨rfl, by rw [List.set_set, List.set_set]⟩
end
end Dt

/-! DtAa: one own thing is kept from now on. -/
namespace Dt
open PySem PySem.Spec PyProof.Rows L2
def frz1 (i : Nat) (δ : List Sl) : List Sl := match δ[i]? with
  | some (.o d) => δ.set i (.v d)
  | _ => δ
section
variable {K : PySem.W.Frag} {Z : Res} {n : Nat} {I0 H0 I H : Hp} {δ : List Sl} {σ : L2.St}
theorem Ev.fr1 (e : Ev K Z I0 H0 n δ σ I H) (i : Nat) : ∃ I', Le I I' ∧ Ev K Z I0 H0 n (frz1 i δ) σ I' H := by
  unfold frz1
  split
  · rename_i d hd
    obtain ⟨a, h1, h2, h3, h4, h5⟩ := e.owns i d hd
    obtain ⟨o, ho, r⟩ := h5.rep h2
    have le : Le I (upd I a o) := Le.new h2
    have il : i < δ.length := (List.getElem?_eq_some_iff.mp hd).1
    refine ⟨_, le, e.st.keep h4 h3 h2 ho, by rw [List.length_set]; exact e.len, fun j c h => ?_, fun j c h => ?_, fun j k c f b g1 g2 g3 g4 => ?_⟩
    · by_cases q : i = j
      · subst q
        rw [List.getElem?_set_self il] at h
        cases h
        exact ⟨_, h1, r⟩
      · rw [List.getElem?_set_ne q] at h
        obtain ⟨v, z1, z2⟩ := e.vals j c h
        exact ⟨v, z1, z2.mono le⟩
    · by_cases q : i = j
      · subst q
        rw [List.getElem?_set_self il] at h
        cases h
      · rw [List.getElem?_set_ne q] at h
        obtain ⟨b, z1, z2, z3, z4, z5⟩ := e.owns j c h
        have ne : b ≠ a := fun z => q (e.sep i j d c a hd h h1 (z ▸ z1))
        exact ⟨b, z1, by rw [upd_ne ne]; exact z2, z3, z4, z5.step le fun u z => z⟩
    · have un : ∀ (m : Nat) (f : D), (δ.set i (Sl.v d))[m]? = some (Sl.o f) → δ[m]? = some (Sl.o f) := fun m f h => by
        by_cases q : i = m
        · subst q
          rw [List.getElem?_set_self il] at h
          cases h
        · rw [List.getElem?_set_ne q] at h
          exact h
      exact e.sep j k c f b (un j c g1) (un k f g2) g3 g4
  · exact ⟨I, Le.refl _, e⟩
end
theorem ds_frz1 {X : Cx} {E : XK} {st : Stmt} {u : WS} (i : Nat) (h : DS X E st u) : DS X E st (fun c De n δ => u c De n (frz1 i δ)) := let ⟨t, p, s⟩ := h
  ⟨t, p, fun Z I0 H0 cx De D' n δ σ I H hx ho he hw => by
    obtain ⟨I', l, e'⟩ := he.fr1 i
    exact s Z I0 H0 cx De D' n _ σ I' H hx (ho.mono l) e' hw⟩
end Dt

/-! DtAb: x[::-1]; one of three lists, the last of them one's own. -/
namespace Dt
open PySem PySem.Spec PyProof.Rows L2
section
variable {X : Cx} {E : XK} {k : Nat} {q : Bool} {e : Expr} {w : WE} {kk : Nat} {p1 p2 p3 pos : Pos}
def wRev (w : WE) : WE := fun c n δ P => w c n δ fun n1 d => asL d fun xs => P n1 (.lst xs.reverse)
theorem df_rev (he : DE X E e w) : DF X E (.Subscript e (.Slice none none (some (.UnaryOp .USub (.Constant (.int 1) kk p1) p2)) p3) pos) (wRev w) := by
  obtain ⟨t, p, s⟩ := he
  refine ⟨_, pe_revL p, fun Z I0 H0 cx n δ σ I H P Q hx he hw hq => s Z I0 H0 cx n δ σ I H _ _ hx he hw fun d v n1 I1 H1 s1 r1 h1 => ?_⟩
  cases r1 with
  | lst h r =>
    refine ⟨_, _, rfl, .inl (.inl (s1.wk.ih _ _ h)), fun b hb => hq (.lst _) b n1 I1 _ (s1.trans (s1.wk.young hb)) (live_back s1 hb) (s1.wk.ih.free hb) (s1.wk.nf hb) ⟨_, upd_same, r.reverse⟩ h1⟩
  | _ => exact h1.elim
end
end Dt

/-! DtAc: x = [e1, e2, x][e], x one's own. -/
namespace Dt
open PySem PySem.Spec PyProof.Rows L2
section
variable {X : Cx} {E : XK} {k : Nat} {q : Bool} {e1 e2 ei : Expr} {w1 w2 wi : WE} {x : Str} {p1 p2 p3 p4 p5 : Pos}
def wSel3 (i : Nat) (w1 w2 wi : WE) : WS := fun c De n δ => ownL δ i fun xs => w1 c n δ fun n1 d1 => asL d1 fun x1 => w2 c n1 δ fun n2 d2 => asL d2 fun x2 => wi c n2 δ fun n3 dj => asI dj fun j => ∃ t, ixN 3 j = some t ∧ (t = 0 → De.nx n3 (δ.set i (.o (.lst x1)))) ∧ (t = 1 → De.nx n3 (δ.set i (.o (.lst x2)))) ∧ (t = 2 → De.nx n3 δ)
theorem ds_sel3 (g : Gx X E k q) (i : Nat) (h1 : DF X E e1 w1) (h2 : DF X E e2 w2) (hj : DE X E ei wi) (hN : X.N[i]? = some x := by rfl) (hv : Vis X.env.scope x := by first | exact Or.inl rfl | exact Or.inr (Or.inl rfl) | exact Or.inr (Or.inr rfl)) (hd : (x == ("__debug__" : Str)) = false := by decide) (hcd : (x == ("__classdict__" : Str)) = false := by decide)
    (hx : Loc X.env.scope x := by first | exact Or.inl rfl | exact Or.inr rfl) (hs : swapsWith (.Subscript (.List [e1, e2, .Name x p1] p2) ei p3) (some (.Name x p4)) p5.line X.env = pure false := by rfl) (hf : X.fn x = true ∨ X.env.scope.names.lookup x = some .local := by first | exact .inl rfl | exact .inr rfl | assumption) (hpi : PlainIx ei := by intro _ _; rfl)
    (hst1 : starEach [e1, e2, .Name x p1] X.env = (false, eval e1 X.env) :: starEach [e2, .Name x p1] X.env := by rfl) (hst2 : starEach [e2, .Name x p1] X.env = (false, eval e2 X.env) :: starEach [.Name x p1] X.env := by rfl) (hst3 : starEach [.Name x p1] X.env = (false, eval (.Name x p1) X.env) :: starEach [] X.env := by rfl) :
    DS X E (.Assign [.Name x p4] (.Subscript (.List [e1, e2, .Name x p1] p2) ei p3) p5) (wSel3 i w1 w2 wi) := by
  obtain ⟨_, q1, s1⟩ := h1
  obtain ⟨_, q2, s2⟩ := h2
  obtain ⟨_, qj, sj⟩ := hj
  refine ⟨_, ps_set g.nd hN hx (pe_ix (ix_seq.or (ix_dct g.u1)) (pe_lst (pa_cons q1 (pa_cons q2 (pa_cons (pe_var hN hv hd hcd) pa_nil hst3) hst2) hst1)) qj hpi) hs hf, fun Z I0 H0 cx De D' n δ σ I H hx ho he hw => ?_⟩
  obtain ⟨xs, a, vs, g1, g2, g3, g4, hw⟩ := he.ownL hw
  refine s1 Z I0 H0 cx n δ σ I H _ _ hx he hw fun d1 a1 n1 I1 H1 t1 f1 m1 u1 o1 hw => ?_
  obtain ⟨x1, v1, rfl, c1, r1, hw⟩ := own_lst o1 hw
  have e1' := he.step t1
  refine s2 Z I0 H0 cx n1 δ σ I1 H1 _ _ hx e1' hw fun d2 a2 n2 I2 H2 t2 f2 m2 u2 o2 hw => ?_
  obtain ⟨x2, v2, rfl, c2, r2, hw⟩ := own_lst o2 hw
  have e2' := e1'.step t2
  have lv : ∀ {o : HO}, some o ≠ (none : Option HO) := fun z => nomatch z
  refine ⟨_, g2, ⟨by show 3 ≤ sizeLine; rw [sizeLine_eq]; omega, fun b hb => ?_⟩⟩
  have yb := t2.wk.young (o := .lst [.ref a1, .ref a2, .ref a]) hb
  have e3' := e2'.step yb
  refine sj Z I0 H0 cx n2 δ σ I2 _ _ _ hx e3' hw fun dj v n3 I3 H3 t3 r3 hw => ?_
  obtain ⟨j, rfl, t, ht, k0, k1, k2⟩ := asI_of r3 hw
  have e4 := e3'.step t3
  have hb3 : H3 b = some (.lst [.ref a1, .ref a2, .ref a]) := t3.kp b _ (t2.wk.nf hb) upd_same
  have nb1 : a1 ≠ b := fun z => by rw [z] at c1; exact absurd hb (t2.live (by rw [c1]; exact lv))
  have nb2 : a2 ≠ b := fun z => by rw [z, hb] at c2; cases c2
  have c1' : H3 a1 = some (.lst v1) := t3.kp a1 _ u1 (by rw [upd_ne nb1]; exact t2.kp a1 _ u1 c1)
  have c2' : H3 a2 = some (.lst v2) := t3.kp a2 _ u2 (by rw [upd_ne nb2]; exact c2)
  have j1 : I3 a1 = none := t3.nw a1 (t2.nw a1 m1 (by rw [c1]; exact lv)) (by rw [upd_ne nb1, t2.kp a1 _ u1 c1]; exact lv)
  have j2 : I3 a2 = none := t3.nw a2 m2 (by rw [upd_ne nb2, c2]; exact lv)
  have lI : Le I I3 := (t1.ex.trans t2.ex).trans t3.ex
  have t3' : t < 3 := (ixN_seq ht).2.1
  have key : ∀ u, [V.ref a1, V.ref a2, V.ref a][t]? = some u → (D'.nx (σ.set i (some u)) H3) → (fun x y H Q => rIx X.K x y H Q ∨ ∃ a v, x = V.ref a ∧ DGet H a y (some v) ∧ Q v H) (V.ref b) (V.int j) H3 (fun v H1 => D'.nx (σ.set i (some v)) H1) := fun u hu hd => .inl (.inl ⟨b, _, j, u, rfl, rfl, .inl (.inl hb3), by unfold atI; rw [show [V.ref a1, V.ref a2, V.ref a].length = 3 from rfl, ht]; exact hu, hd⟩)
  have hc : t = 0 ∨ t = 1 ∨ t = 2 := by omega
  rcases hc with rfl | rfl | rfl
  · refine key (.ref a1) rfl (ho.nx n3 _ _ I3 H3 lI (e4.putO (d := .lst x1) j1 u1 (he.base0 f1) ⟨v1, c1', r1.mono (t2.ex.trans t3.ex)⟩ (he.notOwn f1)) (k0 rfl))
  · refine key (.ref a2) rfl (ho.nx n3 _ _ I3 H3 lI (e4.putO (d := .lst x2) j2 u2 (e1'.base0 f2) ⟨v2, c2', r2.mono t3.ex⟩ (e1'.notOwn f2)) (k1 rfl))
  · have es : σ.set i (some (V.ref a)) = σ := by
      apply List.ext_getElem?
      intro m
      by_cases z : i = m
      · subst z
        rw [List.getElem?_set_self (List.getElem?_eq_some_iff.mp g2).1, g2]
      · rw [List.getElem?_set_ne z]
    exact key (.ref a) rfl (by rw [es]; exact ho.nx n3 _ _ I3 H3 lI e4 (k2 rfl))
end
end Dt

/-! DtAd: the head's facts of defs found by a path of one's own (a property's getter). -/
namespace Dt
open PySem PySem.Spec PyProof.Rows L2
structure DefX where
  ad : PySem.W.Frag → Addr
  name : Str
  qual : Str
  params : Arguments
  body : List Stmt
  scope : Scope
def fnX (K : PySem.W.Frag) (a : Addr) : He.FnW := match K.lookup a with
  | some ⟨_, _, .func fd, _⟩ => some (fd.name, fd.qualname, fd.params, fd.body, fd.scope, fd.globals, fd.closure, fd.builtins)
  | _ => none
def DefX.val (d : DefX) : He.FnW := some (d.name, d.qual, d.params, .stmts d.body, d.scope, mainGlobals, [], builtinsNs)
def DefX.ok (K : PySem.W.Frag) (d : DefX) : Bool := PySem.W.keepIn K (.ref (d.ad K)) && (match K.lookup (d.ad K) with
  | some ⟨_, _, .func fd, _⟩ => PySem.W.codeIn K fd.code d.qual && (He.dflB K fd.defaults [] && He.kwdB K fd.kwdefaults [])
  | _ => false)
theorem DefX.funD {K : PySem.W.Frag} {d : DefX} (e : fnX K (d.ad K) = d.val) (c : d.ok K = true) : ∃ fd, FunD K d.name d.qual d.params d.body d.scope [] [] (d.ad K) fd := by
  obtain ⟨kp, c2⟩ := He.ba c
  unfold fnX at e
  cases q : K.lookup (d.ad K) with
  | none =>
    rw [q] at c2
    cases c2
  | some o =>
    obtain ⟨oc, od, dt, osl⟩ := o
    rw [q] at c2 e
    cases dt with
    | func fd =>
      obtain ⟨n1, n2, n3, n4, n5, n6, n7, n8, n9, n10, n11, n12, n13, n14, n15⟩ := fd
      have e2 : (some (n1, n2, n3, n4, n5, n6, n7, n15) : He.FnW) = some (d.name, d.qual, d.params, .stmts d.body, d.scope, mainGlobals, [], builtinsNs) := e
      simp only [Option.some.injEq, Prod.mk.injEq] at e2
      obtain ⟨h1, h2, h3, h4, h5, h6, h7, h8⟩ := e2
      subst h1 h2 h3 h4 h5 h6 h7 h8
      obtain ⟨k1, k2⟩ := He.ba (show (PySem.W.codeIn K n13 d.qual && (He.dflB K n8 [] && He.kwdB K n9 [])) = true from c2)
      obtain ⟨k3, k4⟩ := He.ba k2
      exact ⟨_, ⟨oc, od, n8, n9, n10, n11, n12, n13, n14, osl, rfl, q, k1, He.dflB_ok k3, He.kwdB_ok k4⟩, kp⟩
    | _ => cases c2
/-! ### the Hook -/
abbrev AlY : Type := AlX × Bool × List He.FnW
def obY (bs : List (PySem.W.Frag → Bool)) (fa : List He.Fa) (fn : List He.DefD) (px : List DefX) (K : PySem.W.Frag) : AlY := (obX bs fa fn K, px.all fun d => d.ok K, px.map fun d => fnX K (d.ad K))
def obYG (n : Nat) (bs : List (PySem.W.Frag → Bool)) (fa : List He.Fa) (fn : List He.DefD) (px : List DefX) (g : Addr → Option Obj) : AlY := obY bs fa fn px (He.frG g (sysModules :: cStatics :: He.asD g n))
def valY (fn : List He.DefD) (px : List DefX) : AlY := ((true, He.valD fn), true, px.map DefX.val)
structure SaysY (bs : List (PySem.W.Frag → Bool)) (fa : List He.Fa) (fn : List He.DefD) (px : List DefX) (K : PySem.W.Frag) : Prop extends SaysX bs fa fn K where
  p : ∀ d ∈ px, ∃ fd, FunD K d.name d.qual d.params d.body d.scope [] [] (d.ad K) fd
theorem map_at {α β : Type} {f g : α → β} {l : List α} (h : l.map f = l.map g) {a : α} (ha : a ∈ l) : f a = g a := List.map_inj_left.mp h a ha
theorem saysY_of {bs : List (PySem.W.Frag → Bool)} {fa : List He.Fa} {fn : List He.DefD} {px : List DefX} {K : PySem.W.Frag} (e : obY bs fa fn px K = valY fn px) : SaysY bs fa fn px K := by
  have e1 : obX bs fa fn K = (true, He.valD fn) := congrArg (fun z : AlY => z.1) e
  have e2 : (px.all fun d => d.ok K) = true := congrArg (fun z : AlY => z.2.1) e
  have e3 : (px.map fun d => fnX K (d.ad K)) = px.map DefX.val := congrArg (fun z : AlY => z.2.2) e
  exact ⟨saysX_of e1, fun d hd => DefX.funD (map_at (f := fun d => fnX K (d.ad K)) (g := DefX.val) e3 hd) (List.all_eq_true.mp e2 d hd)⟩
def hookY (n : Nat) (bs : List (PySem.W.Frag → Bool)) (fa : List He.Fa) (fn : List He.DefD) (px : List DefX) : PySem.W.Hook where
  α := AlY
  obs := fun s => obYG n bs fa fn px s.heap.get?
  val := fun _ => valY fn px
  says := fun _ h => ∃ K : PySem.W.Frag, K.In h ∧ SaysY bs fa fn px K
  of := fun _ _ e => ⟨_, He.frG_in, saysY_of e⟩
  keeps := fun _ _ _ ⟨K, hK, c⟩ k => ⟨K, PySem.W.Frag.In.keeps hK k, c⟩
theorem obYG_eq {n : Nat} {bs : List (PySem.W.Frag → Bool)} {fa : List He.Fa} {fn : List He.DefD} {px : List DefX} {g : Addr → Option Obj} {s : Shared} (h : ∀ a, g a = s.heap.get? a) : obYG n bs fa fn px g = (hookY n bs fa fn px).obs s := by
  have e : g = s.heap.get? := funext h
  rw [e] <;> rfl
theorem SaysY.px {bs : List (PySem.W.Frag → Bool)} {fa : List He.Fa} {fn : List He.DefD} {px : List DefX} {K : PySem.W.Frag} (c : SaysY bs fa fn px K) (i : Nat) {d : DefX} (h : px[i]? = some d := by rfl) : ∃ fd, FunD K d.name d.qual d.params d.body d.scope [] [] (d.ad K) fd := c.p d (List.mem_of_getElem? h)
/-! ### a property -/
def prG (K : PySem.W.Frag) (x f : Str) : Addr := match PySem.W.recIn K (He.ma K (He.ga K x) f) "property" with
  | some (.ref g :: _) => g
  | _ => 0
def propB (K : PySem.W.Frag) (x f : Str) : Bool := He.eqO (fnd K (He.ga K x) f) (some (some (.ref (He.ma K (He.ga K x) f)))) && (He.eqO (PySem.W.specialIn K (.ref (He.ma K (He.ga K x) f)) "__get__") (some (some (.builtin "property.__get__"))) && (decide (PySem.W.takesIn K (.ref (He.ma K (He.ga K x) f)) = some true) &&
  (match PySem.W.recIn K (He.ma K (He.ga K x) f) "property" with
  | some (.ref _ :: _) => true
  | _ => false)))
theorem propB_ok {K : PySem.W.Frag} {x f : Str} (h : propB K x f = true) : PropOf K (He.ga K x) f (He.ma K (He.ga K x) f) (prG K x f) := by
  obtain ⟨h1, h⟩ := He.ba h
  obtain ⟨h2, h⟩ := He.ba h
  obtain ⟨h3, h4⟩ := He.ba h
  refine ⟨He.eqO_ok h1, He.eqO_ok h2, of_decide_eq_true h3, ?_⟩
  unfold prG
  split at h4
  · rename_i g rest e
    exact ⟨rest, by rw [e]⟩
  · cases h4
def eqcB (K : PySem.W.Frag) (x : Str) : Bool := He.eqO (fnd K (He.ga K x) "__eq__") (some (some (.ref (He.ma K (He.ga K x) "__eq__")))) && (PySem.W.isFn K (.ref (He.ma K (He.ga K x) "__eq__")) && (He.eqO (fnd K (He.ga K x) "__ne__") (some (some (.builtin "object.__ne__"))) && decide (PySem.W.subIn K (.ref (He.ga K x)) (.type "object") = some true)))
theorem eqcB_ok {K : PySem.W.Frag} {x : Str} (h : eqcB K x = true) : EqC K (He.ga K x) (He.ma K (He.ga K x) "__eq__") := by
  obtain ⟨h1, h⟩ := He.ba h
  obtain ⟨h2, h⟩ := He.ba h
  obtain ⟨h3, h4⟩ := He.ba h
  exact ⟨He.eqO_ok h1, h2, He.eqO_ok h3, of_decide_eq_true h4⟩
def lencB (K : PySem.W.Frag) (x : Str) : Bool := He.eqO (fnd K (He.ga K x) "__len__") (some (some (.ref (He.ma K (He.ga K x) "__len__")))) && PySem.W.isFn K (.ref (He.ma K (He.ga K x) "__len__"))
end Dt

/-! P0: plain reasoning over the conditions. -/
namespace Dt
open PySem L2

abbrev De0 (P : Nat → D → Prop) : DEnds := ⟨fun m _ => P m .non, P, fun _ _ => False, fun _ _ => False⟩
theorem sz {k : Nat} (h : k ≤ 16777216) : k ≤ sizeLine := by rw [sizeLine_eq]; exact h

inductive All2 {α β : Type} (R : α → β → Prop) : List α → List β → Prop
  | nil : All2 R [] []
  | cons {a : α} {b : β} {as : List α} {bs : List β} (h : R a b) (t : All2 R as bs) : All2 R (a :: as) (b :: bs)
theorem All2.length {α β : Type} {R : α → β → Prop} : ∀ {as : List α} {bs : List β}, All2 R as bs → as.length = bs.length
  | _, _, .nil => rfl
  | _, _, .cons _ t => by rw [List.length_cons, List.length_cons, t.length]
theorem All2.mem {α β : Type} {R : α → β → Prop} : ∀ {as : List α} {bs : List β}, All2 R as bs → ∀ b ∈ bs, ∃ a ∈ as, R a b
  | _, _, .nil, b, h => nomatch h
  | _, _, .cons h t, b, hb => by
    rcases List.mem_cons.mp hb with rfl | hb
    · exact ⟨_, .head _, h⟩
    · obtain ⟨a, ha, r⟩ := t.mem b hb
      exact ⟨a, .tail _ ha, r⟩
/-! ### loops -/
/-- a loop by an invariant over what is left -/
theorem for_ind {g : WG} {b : WS} {c : Ct} {De : DEnds} (Inv : List D → Nat → List Sl → Prop) (hn : ∀ n δ, Inv [] n δ → De.nx n δ)
    (hc : ∀ d ds n δ (W : Nat → List Sl → Prop), Inv (d :: ds) n δ → (∀ n' δ', Inv ds n' δ' → W n' δ') → g d δ fun δ' => b c ⟨W, De.rt, De.nx, W⟩ n δ') : ∀ (ds : List D) (n : Nat) (δ : List Sl), Inv ds n δ → wFor g b c De ds n δ
  | [], n, δ, h => hn n δ h
  | d :: ds, n, δ, h => hc d ds n δ (wFor g b c De ds) h fun n' δ' h' => for_ind Inv hn hc ds n' δ' h'
/-- a while loop by an invariant with a measure -/
theorem while_ind {t : WT} {b : WS} {c : Ct} {De : DEnds} (Inv : Nat → Nat → List Sl → Prop)
    (hc : ∀ m n δ (W : Nat → List Sl → Prop), Inv m n δ → (∀ m' n' δ', m' < m → Inv m' n' δ' → W n' δ') → t c n δ fun n1 q => if q = true then b c ⟨W, De.rt, De.nx, W⟩ n1 δ else De.nx n1 δ) {m n : Nat} {δ : List Sl} (h : Inv m n δ) : wWhile t b c De n δ := by
  have key : ∀ k m n δ, m ≤ k → Inv m n δ → wWh t b c De (k + 1) n δ := by
    intro k
    induction k with
    | zero =>
      intro m n δ hm h
      exact hc m n δ _ h fun m' n' δ' hlt h' => absurd hlt (by omega)
    | succ k ih =>
      intro m n δ hm h
      exact hc m n δ _ h fun m' n' δ' hlt h' => ih m' n' δ' (by omega) h'
  exact ⟨m + 1, key m m n δ (Nat.le_refl _) h⟩
section
variable {g : WG} {t : WT} {e : WE} {c : Ct} {δ : List Sl} {n : Nat}
/-- a comprehension, each item by itself, no draws -/
theorem loop_fm (f : D → Option D) : ∀ (ds : List D) (P : Nat → List D → Prop), (∀ d ∈ ds, ∀ Q : Nat → Option D → Prop, Q n (f d) → g d δ fun δ' => t c n δ' fun n1 b => if b = true then e c n1 δ' (fun n2 y => Q n2 (some y)) else Q n1 none) → P n (ds.filterMap f) → wLoop g t e c δ ds n P
  | [], P, _, h => h
  | d :: ds, P, hb, h => by
    refine hb d (.head _) (fun m o => match o with | some y => wLoop g t e c δ ds m fun n3 ys => P n3 (y :: ys) | none => wLoop g t e c δ ds m P) ?_
    have ih := fun P' => loop_fm f ds P' (fun d hd => hb d (.tail _ hd))
    cases q : f d with
    | none =>
      refine ih P ?_
      rw [List.filterMap_cons, q] at h
      exact h
    | some y =>
      refine ih _ ?_
      rw [List.filterMap_cons, q] at h
      exact h
theorem loop_map (f : D → D) (ds : List D) (P : Nat → List D → Prop) (hb : ∀ d ∈ ds, ∀ Q : Nat → D → Prop, Q n (f d) → g d δ fun δ' => e c n δ' Q) (h : P n (ds.map f)) : wLoop g wYes e c δ ds n P := by
  refine loop_fm (fun d => some (f d)) ds P (fun d hd Q hq => ?_) (by rw [List.filterMap_eq_map']; exact h)
  exact hb d hd (fun m y => Q m (some y)) hq
theorem loop_filter (p : D → Bool) (ds : List D) (P : Nat → List D → Prop) (hb : ∀ d ∈ ds, ∀ Q : Nat → Option D → Prop, Q n (if p d = true then some d else none) → g d δ fun δ' => t c n δ' fun n1 b => if b = true then e c n1 δ' (fun n2 y => Q n2 (some y)) else Q n1 none) (h : P n (ds.filter p)) : wLoop g t e c δ ds n P := by
  refine loop_fm (fun d => if p d = true then some d else none) ds P hb ?_
  have : ds.filterMap (fun d => if p d = true then some d else none) = ds.filter p := by
    rw [← List.filterMap_eq_filter]
    apply congrArg (List.filterMap · ds)
    funext d
    simp [Option.guard]
  rw [this]
  exact h
/-- .. with draws: at most B for each item -/
theorem loop_draw (B N : Nat) (R : D → D → Prop) : ∀ (ds : List D) (n : Nat) (P : Nat → List D → Prop), (∀ d ∈ ds, ∀ m, m + B ≤ N → ∀ Q : Nat → D → Prop, (∀ m' y, m ≤ m' → m' ≤ m + B → R d y → Q m' y) → g d δ fun δ' => e c m δ' Q) → n + B * ds.length ≤ N →
    (∀ m ys, n ≤ m → m ≤ n + B * ds.length → All2 R ds ys → P m ys) → wLoop g wYes e c δ ds n P
  | [], n, P, _, _, h => h n [] (Nat.le_refl _) (by simp) .nil
  | d :: ds, n, P, hb, hn, h => by
    have e1 : n + B + B * ds.length = n + B * (ds.length + 1) := by rw [Nat.mul_succ]; omega
    rw [List.length_cons] at hn
    refine hb d (.head _) n (by rw [← e1] at hn; omega) (fun n2 y => wLoop g wYes e c δ ds n2 fun n3 ys => P n3 (y :: ys)) fun m y h1 h2 hy => ?_
    refine loop_draw B N R ds m _ (fun d hd => hb d (.tail _ hd)) (by omega) fun m' ys h3 h4 hf => h m' (y :: ys) (by omega) (by rw [List.length_cons]; omega) (.cons hy hf)
end

/-! ### kinds -/
def tyN : D → Option String
  | .non => some "NoneType"
  | .bl _ => some "bool"
  | .int _ => some "int"
  | .str _ => some "str"
  | .lst _ => some "list"
  | .tup _ => some "tuple"
  | .dct _ => some "dict"
  | _ => none
def kinds : List String := ["bool", "int", "str", "list", "tuple", "dict"]
/-- a class of one's own, as isinstance sees its instances -/
structure InsOk (K : PySem.W.Frag) (C : Addr) : Prop where
  ci : ClsI K C
  k : ∀ u ∈ kinds, PySem.W.kitOne K (.ref C) (.type u) = some false
/-- a value of a kind that isinstance can look at -/
def AV1 (K : PySem.W.Frag) : D → Prop
  | .str s => PyData.strOk s = true ∧ s.length ≤ 1000000
  | .ins C _ => InsOk K C
  | .exc _ _ => False
  | .obj _ => False
  | .scr _ => False
  | _ => True
mutual
def AV (K : PySem.W.Frag) : D → Prop
  | .lst xs => AVL K xs
  | .tup xs => AVL K xs
  | .dct kvs => AVM K kvs
  | .ins C fs => InsOk K C ∧ AVF K fs
  | .exc _ _ => False
  | .obj _ => False
  | .scr _ => False
  | .non => True
  | .bl _ => True
  | .int _ => True
  | .str s => PyData.strOk s = true ∧ s.length ≤ 1000000
def AVL (K : PySem.W.Frag) : List D → Prop
  | [] => True
  | d :: ds => AV K d ∧ AVL K ds
def AVM (K : PySem.W.Frag) : List (Key × D) → Prop
  | [] => True
  | (_, d) :: ds => AV K d ∧ AVM K ds
def AVF (K : PySem.W.Frag) : List (Str × D) → Prop
  | [] => True
  | (_, d) :: ds => AV K d ∧ AVF K ds
end
theorem AVL_mem {K : PySem.W.Frag} : ∀ {xs : List D}, AVL K xs ↔ ∀ x ∈ xs, AV K x
  | [] => by simp [AVL]
  | d :: ds => by simp [AVL, AVL_mem (xs := ds)]
theorem AV.a1 {K : PySem.W.Frag} : ∀ {d : D}, AV K d → AV1 K d
  | .ins C fs, h => by simp only [AV] at h; exact h.1
  | .exc _ _, h => by simp only [AV] at h
  | .obj _, h => by simp only [AV] at h
  | .scr _, h => by simp only [AV] at h
  | .lst _, _ => trivial
  | .tup _, _ => trivial
  | .dct _, _ => trivial
  | .non, _ => trivial
  | .bl _, _ => trivial
  | .int _, _ => trivial
  | .str _, h => by simp only [AV] at h; exact h
def isK (d : D) (u : String) : Bool := match tyN d with
  | some t => isTy t u
  | none => false
theorem tyN_kit {K : PySem.W.Frag} {d : D} {t : String} (h : tyN d = some t) {u : String} (hu : u ∈ kinds) : PySem.W.kitOne K (.type t) (.type u) = some (isTy t u) := by
  refine kit_b ?_ hu
  cases d <;> simp [tyN] at h <;> subst h <;> decide
theorem kindOf {K : PySem.W.Frag} {d : D} (h : AV1 K d) : ∃ t, TyD K d t ∧ ∀ u ∈ kinds, PySem.W.kitOne K t (.type u) = some (isK d u) := by
  have go : ∀ {d : D} {t : String}, tyN d = some t → TyD K d (.type t) → ∃ t, TyD K d t ∧ ∀ u ∈ kinds, PySem.W.kitOne K t (.type u) = some (isK d u) := fun {d t} e T => ⟨_, T, fun u hu => by
    rw [tyN_kit e hu]
    unfold isK
    rw [e]⟩
  cases d with
  | ins C fs => exact ⟨_, ⟨rfl, h.ci⟩, fun u hu => h.k u hu⟩
  | exc => exact h.elim
  | obj => exact h.elim
  | scr => exact h.elim
  | non => exact go (t := "NoneType") rfl rfl
  | bl => exact go (t := "bool") rfl rfl
  | int => exact go (t := "int") rfl rfl
  | str => exact go (t := "str") rfl rfl
  | lst => exact go (t := "list") rfl rfl
  | tup => exact go (t := "tuple") rfl rfl
  | dct => exact go (t := "dict") rfl rfl
theorem isi_k {K : PySem.W.Frag} {d : D} {u : String} {P : D → Prop} (h : AV1 K d) (hu : u ∈ kinds) (hP : P (.bl (isK d u))) : isiXW K [d, .obj (.ty u)] P := by
  obtain ⟨t, T, k⟩ := kindOf h
  cases d with
  | exc => exact h.elim
  | _ => exact ⟨_, _, _, T, rfl, k u hu, hP⟩
theorem isiT_k {K : PySem.W.Frag} {d : D} {u v : String} {P : Bool → Prop} (h : AV1 K d) (hu : u ∈ kinds) (hv : v ∈ kinds) (hP : P (isK d u || isK d v)) :
    ∃ t us b, TyD K d t ∧ clsL [.obj (.ty u), .obj (.ty v)] = some us ∧ PySem.W.kitAny K t us = some b ∧ P b := by
  obtain ⟨t, T, k⟩ := kindOf h
  refine ⟨t, _, _, T, rfl, ?_, hP⟩
  simp only [PySem.W.kitAny, k u hu, k v hv]
  cases isK d u <;> cases isK d v <;> rfl
theorem isK_non_bool : isK .non "bool" = false := rfl
theorem isK_non_int : isK .non "int" = false := rfl
theorem isK_non_str : isK .non "str" = false := rfl
theorem isK_non_list : isK .non "list" = false := rfl
theorem isK_non_tuple : isK .non "tuple" = false := rfl
theorem isK_non_dict : isK .non "dict" = false := rfl
theorem isK_bl_bool {x : Bool} : isK (.bl x) "bool" = true := rfl
theorem isK_bl_int {x : Bool} : isK (.bl x) "int" = true := rfl
theorem isK_bl_str {x : Bool} : isK (.bl x) "str" = false := rfl
theorem isK_bl_list {x : Bool} : isK (.bl x) "list" = false := rfl
theorem isK_bl_tuple {x : Bool} : isK (.bl x) "tuple" = false := rfl
theorem isK_bl_dict {x : Bool} : isK (.bl x) "dict" = false := rfl
theorem isK_int_bool {x : Int} : isK (.int x) "bool" = false := rfl
theorem isK_int_int {x : Int} : isK (.int x) "int" = true := rfl
theorem isK_int_str {x : Int} : isK (.int x) "str" = false := rfl
theorem isK_int_list {x : Int} : isK (.int x) "list" = false := rfl
theorem isK_int_tuple {x : Int} : isK (.int x) "tuple" = false := rfl
theorem isK_int_dict {x : Int} : isK (.int x) "dict" = false := rfl
theorem isK_str_bool {x : Str} : isK (.str x) "bool" = false := rfl
theorem isK_str_int {x : Str} : isK (.str x) "int" = false := rfl
theorem isK_str_str {x : Str} : isK (.str x) "str" = true := rfl
theorem isK_str_list {x : Str} : isK (.str x) "list" = false := rfl
theorem isK_str_tuple {x : Str} : isK (.str x) "tuple" = false := rfl
theorem isK_str_dict {x : Str} : isK (.str x) "dict" = false := rfl
theorem isK_lst_bool {x : List D} : isK (.lst x) "bool" = false := rfl
theorem isK_lst_int {x : List D} : isK (.lst x) "int" = false := rfl
theorem isK_lst_str {x : List D} : isK (.lst x) "str" = false := rfl
theorem isK_lst_list {x : List D} : isK (.lst x) "list" = true := rfl
theorem isK_lst_tuple {x : List D} : isK (.lst x) "tuple" = false := rfl
theorem isK_lst_dict {x : List D} : isK (.lst x) "dict" = false := rfl
theorem isK_tup_bool {x : List D} : isK (.tup x) "bool" = false := rfl
theorem isK_tup_int {x : List D} : isK (.tup x) "int" = false := rfl
theorem isK_tup_str {x : List D} : isK (.tup x) "str" = false := rfl
theorem isK_tup_list {x : List D} : isK (.tup x) "list" = false := rfl
theorem isK_tup_tuple {x : List D} : isK (.tup x) "tuple" = true := rfl
theorem isK_tup_dict {x : List D} : isK (.tup x) "dict" = false := rfl
theorem isK_dct_bool {x : List (Key × D)} : isK (.dct x) "bool" = false := rfl
theorem isK_dct_int {x : List (Key × D)} : isK (.dct x) "int" = false := rfl
theorem isK_dct_str {x : List (Key × D)} : isK (.dct x) "str" = false := rfl
theorem isK_dct_list {x : List (Key × D)} : isK (.dct x) "list" = false := rfl
theorem isK_dct_tuple {x : List (Key × D)} : isK (.dct x) "tuple" = false := rfl
theorem isK_dct_dict {x : List (Key × D)} : isK (.dct x) "dict" = true := rfl
theorem isK_ins_bool {x : Addr} {y : List (Str × D)} : isK (.ins x y) "bool" = false := rfl
theorem isK_ins_int {x : Addr} {y : List (Str × D)} : isK (.ins x y) "int" = false := rfl
theorem isK_ins_str {x : Addr} {y : List (Str × D)} : isK (.ins x y) "str" = false := rfl
theorem isK_ins_list {x : Addr} {y : List (Str × D)} : isK (.ins x y) "list" = false := rfl
theorem isK_ins_tuple {x : Addr} {y : List (Str × D)} : isK (.ins x y) "tuple" = false := rfl
theorem isK_ins_dict {x : Addr} {y : List (Str × D)} : isK (.ins x y) "dict" = false := rfl
/-! ### truths -/
theorem blD_map {α : Type} (f : α → Bool) : ∀ xs : List α, blD (xs.map fun x => .bl (f x)) = some (xs.map f)
  | [] => rfl
  | x :: xs => by
    simp only [List.map_cons, blD, blD_map f xs]
    rfl
theorem all_map {α : Type} (f : α → Bool) (xs : List α) (P : D → Prop) (h : P (.bl (xs.all f))) : allW [.lst (xs.map fun x => .bl (f x))] P := ⟨_, blD_map f xs, by
  have : (xs.map f).all id = xs.all f := by rw [List.all_map]; rfl
  rw [this]
  exact h⟩
theorem any_map {α : Type} (f : α → Bool) (xs : List α) (P : D → Prop) (h : P (.bl (xs.any f))) : anyW [.lst (xs.map fun x => .bl (f x))] P := ⟨_, blD_map f xs, by
  have : (xs.map f).any id = xs.any f := by rw [List.any_map]; rfl
  rw [this]
  exact h⟩
/-! ### indexes, slices -/
theorem cut_take (xs : List D) (i : Nat) : cutD xs none (some (i : Int)) = xs.take i := by
  unfold cutD
  rw [HT.sIx_none, HT.sIx_nat, List.drop_zero, Nat.sub_zero, List.take_eq_take_iff]
  omega
theorem cut_drop (xs : List D) (i : Nat) : cutD xs (some (i : Int)) none = xs.drop i := by
  unfold cutD
  rw [HT.sIx_none, HT.sIx_nat, List.take_of_length_le (by rw [List.length_drop]; exact Nat.le_refl _)]
  by_cases h : i ≤ xs.length
  · rw [Nat.min_eq_left h]
  · rw [Nat.min_eq_right (by omega), List.drop_eq_nil_of_le (Nat.le_refl _), List.drop_eq_nil_of_le (by omega)]
theorem atN {α : Type} (xs : List α) (i : Nat) : atI xs (i : Int) = xs[i]? := by
  unfold atI ixN
  rw [if_pos (by omega)]
  by_cases h : i < xs.length
  · rw [if_pos (by omega), Int.toNat_natCast]
    rfl
  · rw [if_neg (by omega), List.getElem?_eq_none (by omega)]
    rfl
theorem at0 {α : Type} (x : α) (xs : List α) : atI (x :: xs) 0 = some x := atN (x :: xs) 0
theorem seqD_of {d : D} {xs : List D} (h : seqD d = some xs) : d = .lst xs ∨ d = .tup xs := by
  cases d <;> simp [seqD] at h
  · exact .inl (by rw [h])
  · exact .inr (by rw [h])
/-! ### texts -/
def isStr (d : D) (s : Str) : Bool := match d with
  | .str t => decide (t = s)
  | _ => false
theorem eqD_str (d : D) (s : Str) : eqD d (.str s) = isStr d s := by
  cases d <;> simp [eqD, D.py, PyData.eqv, isStr]
  rename_i t
  by_cases h : t = s <;> simp [h]
theorem anyEq_str (s : Str) (ys : List D) : anyEq (.str s) ys = ys.any (isStr · s) := by
  unfold anyEq
  simp only [eqD_str]
theorem anyEq_strs (s : Str) (ns : List Str) : anyEq (.str s) (ns.map .str) = decide (s ∈ ns) := by
  rw [anyEq_str, List.any_map]
  induction ns with
  | nil => simp
  | cons a ns ih =>
    rw [List.any_cons, ih]
    simp only [isStr, Function.comp, List.mem_cons]
    by_cases h : a = s
    · simp [h]
    · simp [h, Ne.symm h]
theorem dep_str {n : Nat} {s : Str} (h : PyData.strOk s = true) : dep n (.str s) = true := by
  unfold dep
  exact h
theorem depL_strs {n : Nat} : ∀ {ns : List Str}, (∀ s ∈ ns, PyData.strOk s = true) → depL n (ns.map .str) = true
  | [], _ => by simp [depL]
  | s :: ns, h => by
    simp only [List.map_cons, depL, dep_str (h s (.head _)), Bool.true_and]
    exact depL_strs fun t ht => h t (.tail _ ht)
theorem depL_mem {n : Nat} : ∀ {xs : List D}, depL n xs = true ↔ ∀ x ∈ xs, dep n x = true
  | [] => by simp [depL]
  | x :: xs => by simp [depL, depL_mem (xs := xs)]
theorem in_strs {n : Nat} {s : Str} {d : D} {ns : List Str} {P : Bool → Prop} (hd : seqD d = some (ns.map .str)) (h1 : PyData.strOk s = true) (h2 : ∀ s ∈ ns, PyData.strOk s = true) (hP : P (decide (s ∈ ns))) : inF (.str s) d P := by
  cases d <;> simp [seqD] at hd
  all_goals
    subst hd
    exact ⟨⟨0, by decide, dep_str h1, depL_strs h2⟩, by rw [anyEq_strs]; exact hP⟩
/-! ### equality of plain kinds -/
theorem eqD_ii (i j : Int) : eqD (.int i) (.int j) = decide (i = j) := by
  simp only [eqD, D.py, PyData.eqv]
  by_cases h : i = j <;> simp [h]
theorem eqD_bb (i j : Bool) : eqD (.bl i) (.bl j) = decide (i = j) := by
  simp only [eqD, D.py, PyData.eqv]
  by_cases h : i = j <;> simp [h]
theorem eqW_ii (i j : Int) (P : D → Prop) : eqW (.int i) (.int j) P = P (.bl (decide (i = j))) := by
  show ((∃ n, n ≤ 64 ∧ dep n (.int i) = true ∧ dep n (.int j) = true) ∧ P (.bl (eqD (.int i) (.int j)))) = _
  rw [eqD_ii]
  exact propext ⟨fun h => h.2, fun h => ⟨⟨0, by decide, by simp [dep], by simp [dep]⟩, h⟩⟩
theorem neW_ii (i j : Int) (P : D → Prop) : neW (.int i) (.int j) P = P (.bl (!decide (i = j))) := by
  show ((∃ n, n ≤ 64 ∧ dep n (.int i) = true ∧ dep n (.int j) = true) ∧ P (.bl (!eqD (.int i) (.int j)))) = _
  rw [eqD_ii]
  exact propext ⟨fun h => h.2, fun h => ⟨⟨0, by decide, by simp [dep], by simp [dep]⟩, h⟩⟩
theorem eqW_bb (i j : Bool) (P : D → Prop) : eqW (.bl i) (.bl j) P = P (.bl (decide (i = j))) := by
  show ((∃ n, n ≤ 64 ∧ dep n (.bl i) = true ∧ dep n (.bl j) = true) ∧ P (.bl (eqD (.bl i) (.bl j)))) = _
  rw [eqD_bb]
  exact propext ⟨fun h => h.2, fun h => ⟨⟨0, by decide, by simp [dep], by simp [dep]⟩, h⟩⟩
theorem eqW_ss (i j : Str) (P : D → Prop) : eqW (.str i) (.str j) P = P (.bl (decide (i = j))) := rfl
theorem neW_ss (i j : Str) (P : D → Prop) : neW (.str i) (.str j) P = P (.bl (!decide (i = j))) := rfl
theorem eqD_nil (xs : List D) : eqD (.lst xs) (.lst []) = xs.isEmpty := by
  cases xs <;> simp [eqD, D.py, D.pyL, PyData.eqv, PyData.eqvAll]
theorem eq_nil {xs : List D} {n : Nat} {P : D → Prop} (hn : n < 64) (h : depL n xs = true) (hP : P (.bl xs.isEmpty)) : eqW (.lst xs) (.lst []) P :=
  ⟨⟨n + 1, by omega, by simpa [dep] using h, by simp [dep, depL]⟩, by rw [eqD_nil]; exact hP⟩
theorem ne_nil {xs : List D} {n : Nat} {P : D → Prop} (hn : n < 64) (h : depL n xs = true) (hP : P (.bl (!xs.isEmpty))) : neW (.lst xs) (.lst []) P :=
  ⟨⟨n + 1, by omega, by simpa [dep] using h, by simp [dep, depL]⟩, by rw [eqD_nil]; exact hP⟩
theorem putFD_le (f : Str) (d : D) : ∀ fs : List (Str × D), (putFD f d fs).length ≤ fs.length + 1
  | [] => by simp [putFD]
  | (g, x) :: r => by
    unfold putFD
    split
    · simp
    · have := putFD_le f d r
      simp only [List.length_cons]
      omega
theorem putFD_lt (f : Str) (d : D) (fs : List (Str × D)) (k : Nat) (h : fs.length + 1 < k) : (putFD f d fs).length < k := Nat.lt_of_le_of_lt (putFD_le f d fs) h
/-! ### enumerate -/
def enF : Nat → List D → List D
  | _, [] => []
  | k, x :: xs => .tup [.int (k : Nat), x] :: enF (k + 1) xs
theorem enF_map : ∀ (k : Nat) (xs : List D), enF k xs = xs.mapIdx fun i d => .tup [.int ((i + k : Nat) : Int), d]
  | _, [] => rfl
  | k, x :: xs => by
    rw [enF, enF_map (k + 1) xs, List.mapIdx_cons]
    have e : ∀ i : Nat, i + (k + 1) = i + 1 + k := fun i => by omega
    simp only [e, Nat.zero_add]
theorem enD_F (xs : List D) : enD xs = enF 0 xs := by
  rw [enF_map]
  rfl
theorem enF_len : ∀ (k : Nat) (xs : List D), (enF k xs).length = xs.length
  | _, [] => rfl
  | k, x :: xs => by rw [enF, List.length_cons, List.length_cons, enF_len]
theorem strL_strs : ∀ ss : List Str, strL (ss.map .str) = some ss
  | [] => rfl
  | s :: ss => by
    rw [List.map_cons]
    show (strL (ss.map .str)).map (s :: ·) = some (s :: ss)
    rw [strL_strs ss]
    rfl
/-! ### equality of data of one form -/
theorem eqvAll_map {α : Type} [DecidableEq α] (f : α → D) (h : ∀ a b, eqD (f a) (f b) = decide (a = b)) : ∀ xs ys : List α, PyData.eqvAll (D.pyL (xs.map f)) (D.pyL (ys.map f)) = decide (xs = ys)
  | [], [] => by simp [D.pyL, PyData.eqvAll]
  | [], y :: ys => by simp [D.pyL, PyData.eqvAll]
  | x :: xs, [] => by simp [D.pyL, PyData.eqvAll]
  | x :: xs, y :: ys => by
    have h1 : PyData.eqv (f x).py (f y).py = decide (x = y) := h x y
    rw [List.map_cons, List.map_cons, D.pyL, D.pyL, PyData.eqvAll, h1, eqvAll_map f h xs ys]
    by_cases a : x = y <;> by_cases b : xs = ys <;> simp [a, b]
theorem eqD_tup {α : Type} [DecidableEq α] (f : α → D) (h : ∀ a b, eqD (f a) (f b) = decide (a = b)) (xs ys : List α) : eqD (.tup (xs.map f)) (.tup (ys.map f)) = decide (xs = ys) := by
  unfold eqD
  rw [D.py, D.py, PyData.eqv]
  exact eqvAll_map f h xs ys
theorem eqD_lst {α : Type} [DecidableEq α] (f : α → D) (h : ∀ a b, eqD (f a) (f b) = decide (a = b)) (xs ys : List α) : eqD (.lst (xs.map f)) (.lst (ys.map f)) = decide (xs = ys) := by
  unfold eqD
  rw [D.py, D.py, PyData.eqv]
  exact eqvAll_map f h xs ys
theorem eqD_ss (a b : Str) : eqD (.str a) (.str b) = decide (a = b) := by
  rw [eqD_str]
  rfl
theorem depL_map {α : Type} {f : α → D} {n : Nat} {xs : List α} (h : ∀ x ∈ xs, dep n (f x) = true) : depL n (xs.map f) = true := depL_mem.mpr fun y hy => by
  obtain ⟨x, hx, rfl⟩ := List.mem_map.mp hy
  exact h x hx
/-- a kind, as == and isinstance see it -/
def tys : List String := ["NoneType", "bool", "int", "str", "list", "tuple", "dict"]
theorem tyN_D {K : PySem.W.Frag} {d : D} {t : String} (h : tyN d = some t) : TyD K d (.type t) ∧ t ∈ tys := by
  cases d <;> simp [tyN] at h <;> subst h <;> exact ⟨rfl, by decide⟩
end Dt

/-! DtAe: a class's parts by their defs: for printed readings. -/
namespace Dt
open PySem PySem.Spec PyProof.Rows L2
section
variable {P : Program} {w : World} {K : PySem.W.Frag} {mg : Str → Option Value} {base : Heap} {k : Nat} {x qual f o : Str} {params : Arguments} {body : List Stmt} {scope : Scope} {g C pa : Addr} {fd : FuncData} {N ps : List Str} {p1 p2 p3 p4 p5 : Pos}
theorem gprop_of (hp : PropOf K C f pa g) (F : FunD K x qual params body scope [] [] g fd) (S : FnScope N ["self"] scope) (hN : N[0]? = some ("self" : Str)) (hb : body = [.Return (some (.Attribute (.Name "self" p1) o p2)) p3]) (c : Cls K C) (n : NoAttr K C o) (bd : Binds K fd ["self"] []) : GProp P w K mg base C f o (k + 1) := by
  obtain ⟨oc, od, dV, kV, doc, pm, an, cdv, ct, osl, rfl, lk, hcd, _, _⟩ := F.ex
  exact ⟨pa, g, _, hp, fn_getter lk hcd S hN hb c n, bd⟩
def dfl0B (K : PySem.W.Frag) (a : Addr) : Bool := match K.lookup a with
  | some ⟨.type c, _, .seq its _, _⟩ => decide (c = "tuple") && decide (its.toList = [])
  | _ => false
theorem dfl0_ok {a : Addr} (h : dfl0B K a = true) (I : Hp) : RepL K I [.ref a] [.tup []] := by
  unfold dfl0B at h
  split at h
  · rename_i c d its n sl q
    obtain ⟨h1, h2⟩ := He.ba h
    have e := of_decide_eq_true h2
    refine .cons (.tup (vs := []) (.inr ⟨_, its, n, q, congrArg Value.type (of_decide_eq_true h1), rfl, ?_, ?_⟩) .nil) .nil
    · rw [← Array.length_toList, e]
      decide
    · rw [e]
      exact .nil
  · cases h
theorem lencB_ok {x : Str} (h : lencB K x = true) : PySem.W.findIn K (.ref (He.ga K x)) "__len__" = some (some (.ref (He.ma K (He.ga K x) "__len__"))) ∧ PySem.W.isFn K (.ref (He.ma K (He.ga K x) "__len__")) = true := ⟨He.eqO_ok (He.ba h).1, (He.ba h).2⟩
end
section
variable {K : PySem.W.Frag} {x qual : Str} {params : Arguments} {body : List Stmt} {scope : Scope} {dvs : List V} {kws : List (Str × V)} {f : Addr} {fd : FuncData} {ps : List Str}
/-- keywords, no defaults -/
theorem kbindsN (F : FunD K x qual params body scope [] kws f fd) (n : Nat) (ks : List Str) (g : {α : Type} → List α → List α → List α) (hrel : ∀ {vs zs : List V} {us ws : List Value}, Vals vs us → Vals zs ws → Vals (g vs zs) (g us ws))
    (h : ∀ (kV doc pm : Value) (an : Option Addr) (cdv ct : Value) (us ws : List Value), us.length = n → ws.length = ks.length → bindArgs (PySem.W.fnOf x qual params body scope .none kV doc pm an cdv ct) ⟨us, ks.zip ws⟩ = pure (ps.zip (g us ws))) : KBn K fd ps n ks (fun us ws => g us ws) (fun vs zs => g vs zs) := by
  obtain ⟨oc, od, dV, kV, doc, pm, an, cdv, ct, osl, rfl, lk, hcd, hD, hK⟩ := F.ex
  rcases hD with ⟨_, rfl⟩ | ⟨e, _⟩
  · exact ⟨fun s us ws _ l1 l2 => .of_eq (h kV doc pm an cdv ct us ws l1 l2), fun r1 r2 => hrel r1 r2⟩
  · exact absurd rfl e
end
/-! ### an own class, as isinstance and == see it -/
def insB (K : PySem.W.Frag) (x : Str) : Bool := (He.Fa.cls x).ok K && (He.eqO (fnd K (He.ga K x) "__class__") (some (some (.builtin "object.__class__"))) && (He.eqO (PySem.W.specialIn K (.builtin "object.__class__") "__get__") (some (some (.builtin "getset_descriptor.__get__"))) && (decide (PySem.W.takesIn K (.builtin "object.__class__") = some true) &&
  (decide (PySem.W.mroIn K (He.ga K x) (.type "object") = some true) && kinds.all fun u => decide (PySem.W.kitOne K (.ref (He.ga K x)) (.type u) = some false)))))
theorem insB_ok {K : PySem.W.Frag} {x : Str} (h : insB K x = true) : InsOk K (He.ga K x) := by
  obtain ⟨h1, h⟩ := He.ba h
  obtain ⟨h2, h⟩ := He.ba h
  obtain ⟨h3, h⟩ := He.ba h
  obtain ⟨h4, h⟩ := He.ba h
  obtain ⟨h5, h6⟩ := He.ba h
  exact ⟨⟨He.cls_ok h1, He.eqO_ok h2, He.eqO_ok h3, of_decide_eq_true h4, of_decide_eq_true h5⟩, fun u hu => of_decide_eq_true (List.all_eq_true.mp h6 u hu)⟩
def isC0B (K : PySem.W.Frag) (x : Str) : Bool := tys.all fun t => decide (PySem.W.kitOne K (.type t) (.ref (He.ga K x)) = some false) && PySem.W.notFirst K (He.ga K x) (.type t)
theorem isC0B_ok {K : PySem.W.Frag} {x : Str} (h : isC0B K x = true) : (∀ t ∈ tys, PySem.W.kitOne K (.type t) (.ref (He.ga K x)) = some false) ∧ ∀ t ∈ tys, PySem.W.notFirst K (He.ga K x) (.type t) = true :=
  ⟨fun t ht => of_decide_eq_true (He.ba (List.all_eq_true.mp h t ht)).1, fun t ht => (He.ba (List.all_eq_true.mp h t ht)).2⟩
def isC1B (K : PySem.W.Frag) (x : Str) : Bool := decide (PySem.W.kitOne K (.ref (He.ga K x)) (.ref (He.ga K x)) = some true) && PySem.W.notFirst K (He.ga K x) (.ref (He.ga K x))
theorem isC1B_ok {K : PySem.W.Frag} {x : Str} (h : isC1B K x = true) : PySem.W.kitOne K (.ref (He.ga K x)) (.ref (He.ga K x)) = some true ∧ PySem.W.notFirst K (He.ga K x) (.ref (He.ga K x)) = true := ⟨of_decide_eq_true (He.ba h).1, (He.ba h).2⟩
end Dt

/-! DtAf: several names at once, through a tuple (a name among them is a cell). -/
namespace Dt
open PySem PySem.Spec PyProof.Rows L2
section
variable {X : Cx} {E : XK} {k : Nat} {q : Bool} {x y z : Str} {a b c : Expr} {wa wb wc : WX1} {px py pz pt pos : Pos} {kt k2 : Nat} {pt2 : Pos}
theorem ds_par2T {k2} (g : Gx X E k q) (i j : Nat) (ha : DX X E a wa) (hb : DX X E b wb) (hi : X.N[i]? = some x := by rfl) (hj : X.N[j]? = some y := by rfl) (hx : Loc X.env.scope x := by first | exact Or.inl rfl | exact Or.inr rfl) (hy : Loc X.env.scope y := by first | exact Or.inl rfl | exact Or.inr rfl)
    (hfx : X.fn x = true ∨ X.env.scope.names.lookup x = some .local := by first | exact .inl rfl | exact .inr rfl) (hfy : X.fn y = true ∨ X.env.scope.names.lookup y = some .local := by first | exact .inl rfl | exact .inr rfl)
    (hw : swappedStores [.Tuple [.Name x px, .Name y py] kt pt] (.Tuple [a, b] k2 pt2) X.env = pure none := by rfl) (hs : swapsWithSole [.Tuple [.Name x px, .Name y py] kt pt] (.Tuple [a, b] k2 pt2) pos.line X.env = pure false := by rfl)
    (h1 : (assignEach [.Tuple [.Name x px, .Name y py] kt pt] X.env).map (·.2) = [assign (.Tuple [.Name x px, .Name y py] kt pt) X.env] := by rfl)
    (hn : (assignEach [.Name x px, .Name y py] X.env).length = 2 := by rfl) (hst : (assignEach [.Name x px, .Name y py] X.env).findIdx? (·.1) = none := by rfl)
    (ht1 : (assignEach [.Name x px, .Name y py] X.env).map (·.2) = assign (.Name x px) X.env :: (assignEach [.Name y py] X.env).map (·.2) := by rfl) (ht2 : (assignEach [.Name y py] X.env).map (·.2) = assign (.Name y py) X.env :: (assignEach [] X.env).map (·.2) := by rfl)
    (s1 : starEach [a, b] X.env = (false, eval a X.env) :: starEach [b] X.env := by rfl) (s2 : starEach [b] X.env = (false, eval b X.env) :: starEach [] X.env := by rfl) : DS X E (.Assign [.Tuple [.Name x px, .Name y py] kt pt] (.Tuple [a, b] k2 pt2) pos) (wPar2 i j wa wb) := by
  obtain ⟨_, pa, sa⟩ := ha
  obtain ⟨_, pb, sb⟩ := hb
  refine ⟨_, ps_asg (pe_tup (pa_cons pa (pa_cons pb pa_nil s2) s1)) (pg_tup g.calm (pgs_cons (pg_name g.nd hi hx hfx) (pgs_cons (pg_name g.nd hj hy hfy) pgs_nil ht2) ht1) hn hst) hs hw h1,
    fun Z I0 H0 cx De D' n δ σ I H hx ho he hw => sa Z I0 H0 cx n δ σ I H _ _ hx he hw fun u v n1 I1 H1 t1 r1 h1 => sb Z I0 H0 cx n1 δ σ I1 H1 _ _ hx (he.step t1) h1 fun u2 v2 n2 I2 H2 t2 r2 h2 => ⟨sz (show 2 ≤ 16777216 by decide), fun p hp => ⟨p, [v, v2], rfl, .inl (.inl upd_same), rfl, v, [v2], rfl, v2, [], rfl, rfl, ?_⟩⟩⟩
  have t3 := t2.wk.young (o := .tup [v, v2]) hp
  have e2 := ((he.step t1).step t2).step t3
  have f1 := e2.putS (i := i) ((r1.step t2).step t3) (fun p hp => he.base0 hp) (fun p hp => he.notOwn hp)
  have f2 := f1.putS (i := j) (r2.step t3) (fun p hp => he.base0 (live_back t1 hp)) (fun p hp => notOwn_set ((he.step t1).notOwn hp) he.len (r1.ne hp))
  exact ho.nx _ _ _ I2 _ (t1.ex.trans t2.ex) f2 h2
theorem ds_par3T {k2} (g : Gx X E k q) (i j l : Nat) (ha : DX X E a wa) (hb : DX X E b wb) (hc : DX X E c wc) (hi : X.N[i]? = some x := by rfl) (hj : X.N[j]? = some y := by rfl) (hl : X.N[l]? = some z := by rfl) (hx : Loc X.env.scope x := by first | exact Or.inl rfl | exact Or.inr rfl) (hy : Loc X.env.scope y := by first | exact Or.inl rfl | exact Or.inr rfl) (hz : Loc X.env.scope z := by first | exact Or.inl rfl | exact Or.inr rfl)
    (hfx : X.fn x = true ∨ X.env.scope.names.lookup x = some .local := by first | exact .inl rfl | exact .inr rfl) (hfy : X.fn y = true ∨ X.env.scope.names.lookup y = some .local := by first | exact .inl rfl | exact .inr rfl) (hfz : X.fn z = true ∨ X.env.scope.names.lookup z = some .local := by first | exact .inl rfl | exact .inr rfl)
    (hw : swappedStores [.Tuple [.Name x px, .Name y py, .Name z pz] kt pt] (.Tuple [a, b, c] k2 pt2) X.env = pure none := by rfl) (hs : swapsWithSole [.Tuple [.Name x px, .Name y py, .Name z pz] kt pt] (.Tuple [a, b, c] k2 pt2) pos.line X.env = pure false := by rfl)
    (h1 : (assignEach [.Tuple [.Name x px, .Name y py, .Name z pz] kt pt] X.env).map (·.2) = [assign (.Tuple [.Name x px, .Name y py, .Name z pz] kt pt) X.env] := by rfl)
    (hn : (assignEach [.Name x px, .Name y py, .Name z pz] X.env).length = 3 := by rfl) (hst : (assignEach [.Name x px, .Name y py, .Name z pz] X.env).findIdx? (·.1) = none := by rfl)
    (ht1 : (assignEach [.Name x px, .Name y py, .Name z pz] X.env).map (·.2) = assign (.Name x px) X.env :: (assignEach [.Name y py, .Name z pz] X.env).map (·.2) := by rfl) (ht2 : (assignEach [.Name y py, .Name z pz] X.env).map (·.2) = assign (.Name y py) X.env :: (assignEach [.Name z pz] X.env).map (·.2) := by rfl) (ht3 : (assignEach [.Name z pz] X.env).map (·.2) = assign (.Name z pz) X.env :: (assignEach [] X.env).map (·.2) := by rfl)
    (s1 : starEach [a, b, c] X.env = (false, eval a X.env) :: starEach [b, c] X.env := by rfl) (s2 : starEach [b, c] X.env = (false, eval b X.env) :: starEach [c] X.env := by rfl) (s3 : starEach [c] X.env = (false, eval c X.env) :: starEach [] X.env := by rfl) : DS X E (.Assign [.Tuple [.Name x px, .Name y py, .Name z pz] kt pt] (.Tuple [a, b, c] k2 pt2) pos) (wPar3 i j l wa wb wc) := by
  obtain ⟨_, pa, sa⟩ := ha
  obtain ⟨_, pb, sb⟩ := hb
  obtain ⟨_, pc, sc⟩ := hc
  refine ⟨_, ps_asg (pe_tup (pa_cons pa (pa_cons pb (pa_cons pc pa_nil s3) s2) s1)) (pg_tup g.calm (pgs_cons (pg_name g.nd hi hx hfx) (pgs_cons (pg_name g.nd hj hy hfy) (pgs_cons (pg_name g.nd hl hz hfz) pgs_nil ht3) ht2) ht1) hn hst) hs hw h1,
    fun Z I0 H0 cx De D' n δ σ I H hx ho he hw => sa Z I0 H0 cx n δ σ I H _ _ hx he hw fun u v n1 I1 H1 t1 r1 h1 => sb Z I0 H0 cx n1 δ σ I1 H1 _ _ hx (he.step t1) h1 fun u2 v2 n2 I2 H2 t2 r2 h2 => sc Z I0 H0 cx n2 δ σ I2 H2 _ _ hx ((he.step t1).step t2) h2 fun u3 v3 n3 I3 H3 t3 r3 h3 => ⟨sz (show 3 ≤ 16777216 by decide), fun p hp => ⟨p, [v, v2, v3], rfl, .inl (.inl upd_same), rfl, v, [v2, v3], rfl, v2, [v3], rfl, v3, [], rfl, rfl, ?_⟩⟩⟩
  have t4 := t3.wk.young (o := .tup [v, v2, v3]) hp
  have e2 := (((he.step t1).step t2).step t3).step t4
  have f1 := e2.putS (i := i) (((r1.step t2).step t3).step t4) (fun p hp => he.base0 hp) (fun p hp => he.notOwn hp)
  have f2 := f1.putS (i := j) ((r2.step t3).step t4) (fun p hp => he.base0 (live_back t1 hp)) (fun p hp => notOwn_set ((he.step t1).notOwn hp) he.len (r1.ne hp))
  have f3 := f2.putS (i := l) (r3.step t4) (fun p hp => he.base0 (live_back (t1.trans t2) hp)) (fun p hp => notOwn_set (notOwn_set (((he.step t1).step t2).notOwn hp) he.len ((r1.step t2).ne hp)) (by rw [List.length_set, List.length_set]; exact he.len) (r2.ne hp))
  exact ho.nx _ _ _ I3 _ ((t1.ex.trans t2.ex).trans t3.ex) f3 h3
end
end Dt

/-! P1: what repr tells: that it can be told, and how long it is. -/
namespace Dt
open PySem L2
def kk : Key → Bool
  | .inl i => decide (i.natAbs.log2 < 1920)
  | .inr s => PyData.strOk s
def kw : Key → Nat
  | .inl _ => 1921
  | .inr s => 10 * s.length + 2
mutual
/-- can be told, n levels deep at most -/
def tk : Nat → D → Bool
  | _, .non => true
  | _, .bl _ => true
  | _, .int i => decide (i.natAbs.log2 < 1920)
  | _, .str s => PyData.strOk s
  | n + 1, .lst xs => tkL n xs
  | n + 1, .tup xs => tkL n xs
  | n + 1, .dct kvs => tkM n kvs
  | _, _ => false
def tkL : Nat → List D → Bool
  | _, [] => true
  | n, d :: ds => tk n d && tkL n ds
def tkM : Nat → List (Key × D) → Bool
  | _, [] => true
  | n, (k, d) :: ds => kk k && (tk n d && tkM n ds)
end
mutual
/-- at most so long -/
def tw : D → Nat
  | .non => 4
  | .bl _ => 5
  | .int _ => 1921
  | .str s => 10 * s.length + 2
  | .lst xs => twL xs + 3
  | .tup xs => twL xs + 3
  | .dct kvs => twM kvs + 3
  | _ => 0
def twL : List D → Nat
  | [] => 0
  | d :: ds => tw d + 2 + twL ds
def twM : List (Key × D) → Nat
  | [] => 0
  | (k, d) :: ds => kw k + 2 + tw d + 2 + twM ds
end
theorem piled_sum : ∀ ts : List Str, piled ts = (ts.map (·.length)).sum + 2 * ts.length
  | [] => rfl
  | t :: ts => by
    rw [piled_cons, piled_sum ts, List.map_cons, List.sum_cons, List.length_cons]
    omega
theorem strOk_len {s : Str} (h : PyData.strOk s = true) : (reprText s).length ≤ 10 * s.length + 2 := by
  refine PySem.StrLaws.reprText_len s fun c hc => ?_
  unfold PyData.strOk at h
  rw [← Array.all_toList, List.all_eq_true] at h
  have := of_decide_eq_true (h c hc)
  omega
theorem kk_ok {k : Key} (h : kk k = true) : (keyPy k).showable = true ∧ (keyPy k).depth = 0 ∧ (keyPy k).shown.length ≤ kw k := by
  cases k with
  | inl i => exact ⟨by simpa [keyPy, PyData.showable, kk] using h, by simp [keyPy, PyData.depth], by
      simp only [keyPy, PyData.shown, kw]
      exact PyProof.Rows.int_text_len_1921 (of_decide_eq_true h)⟩
  | inr s => exact ⟨by simp [keyPy, PyData.showable], by simp [keyPy, PyData.depth], by
      simp only [keyPy, PyData.shown, kw]
      exact strOk_len h⟩
mutual
theorem tk_ok : ∀ (n : Nat) (d : D), tk n d = true → tells d = true ∧ (tell d).showable = true ∧ (tell d).depth ≤ n ∧ (tell d).shown.length ≤ tw d
  | n, .non, _ => ⟨by simp [tells], by simp [tell, PyData.showable], by simp [tell, PyData.depth], by simp only [tell, PyData.shown, tw]; decide⟩
  | n, .bl b, _ => ⟨by simp [tells], by simp [tell, PyData.showable], by simp [tell, PyData.depth], by simp only [tell, PyData.shown, tw]; cases b <;> decide⟩
  | n, .int i, h => ⟨by simp [tells], by simpa [tell, PyData.showable, tk] using h, by simp [tell, PyData.depth], by
      simp only [tell, PyData.shown, tw]
      exact PyProof.Rows.int_text_len_1921 (of_decide_eq_true (by simpa [tk] using h))⟩
  | n, .str s, h => ⟨by simp [tells], by simp [tell, PyData.showable], by simp [tell, PyData.depth], by
      simp only [tell, PyData.shown, tw]
      exact strOk_len (by simpa [tk] using h)⟩
  | n + 1, .lst xs, h => by
    obtain ⟨h1, h2, h3, h4⟩ := tkL_ok n xs (by simpa [tk] using h)
    refine ⟨by simpa [tells] using h1, by simpa [tell, PyData.showable] using h2, by simp only [tell, PyData.depth]; omega, ?_⟩
    simp only [tell, PyData.shown, tw]
    have := listText_len_le (PyData.shownAll (tellL xs))
    rw [piled_sum] at h4
    omega
  | n + 1, .tup xs, h => by
    obtain ⟨h1, h2, h3, h4⟩ := tkL_ok n xs (by simpa [tk] using h)
    refine ⟨by simpa [tells] using h1, by simpa [tell, PyData.showable] using h2, by simp only [tell, PyData.depth]; omega, ?_⟩
    simp only [tell, PyData.shown, tw]
    have := tupleText_len_le (PyData.shownAll (tellL xs))
    rw [piled_sum] at h4
    omega
  | n + 1, .dct kvs, h => by
    obtain ⟨h1, h2, h3, h4⟩ := tkM_ok n kvs (by simpa [tk] using h)
    refine ⟨by simpa [tells] using h1, by simpa [tell, PyData.showable] using h2, by simp only [tell, PyData.depth]; omega, ?_⟩
    simp only [tell, PyData.shown, tw]
    have := dictText_len_le (PyData.shownKv (tellM kvs))
    rw [piled_sum] at h4
    omega
  | 0, .lst _, h => by simp [tk] at h
  | 0, .tup _, h => by simp [tk] at h
  | 0, .dct _, h => by simp [tk] at h
  | _, .ins _ _, h => by simp [tk] at h
  | _, .scr _, h => by simp [tk] at h
  | _, .exc _ _, h => by simp [tk] at h
  | _, .obj _, h => by simp [tk] at h
theorem tkL_ok : ∀ (n : Nat) (ds : List D), tkL n ds = true → tellsL ds = true ∧ PyData.showableAll (tellL ds) = true ∧ PyData.depthAll (tellL ds) ≤ n ∧ piled (PyData.shownAll (tellL ds)) ≤ twL ds
  | n, [], _ => ⟨by simp [tellsL], by simp [tellL, PyData.showableAll], by simp [tellL, PyData.depthAll], by simp [tellL, PyData.shownAll, piled, twL]⟩
  | n, d :: ds, h => by
    simp only [tkL, Bool.and_eq_true] at h
    obtain ⟨h1, h2, h3, h4⟩ := tk_ok n d h.1
    obtain ⟨g1, g2, g3, g4⟩ := tkL_ok n ds h.2
    refine ⟨by simp [tellsL, h1, g1], by simp [tellL, PyData.showableAll, h2, g2], by simp only [tellL, PyData.depthAll]; omega, ?_⟩
    simp only [tellL, PyData.shownAll, piled_cons, twL]
    omega
theorem tkM_ok : ∀ (n : Nat) (ds : List (Key × D)), tkM n ds = true → tellsM ds = true ∧ PyData.showableKv (tellM ds) = true ∧ PyData.depthKv (tellM ds) ≤ n ∧ piled (PyData.shownKv (tellM ds)) ≤ twM ds
  | n, [], _ => ⟨by simp [tellsM], by simp [tellM, PyData.showableKv], by simp [tellM, PyData.depthKv], by simp [tellM, PyData.shownKv, piled, twM]⟩
  | n, (k, d) :: ds, h => by
    simp only [tkM, Bool.and_eq_true] at h
    obtain ⟨k1, k2, k3⟩ := kk_ok h.1
    obtain ⟨h1, h2, h3, h4⟩ := tk_ok n d h.2.1
    obtain ⟨g1, g2, g3, g4⟩ := tkM_ok n ds h.2.2
    refine ⟨by simp [tellsM, h1, g1], by simp [tellM, PyData.showableKv, k1, h2, g2], by simp only [tellM, PyData.depthKv]; omega, ?_⟩
    simp only [tellM, PyData.shownKv, piled_cons, twM, strLen_append]
    have : ((": " : String) : Str).length = 2 := rfl
    omega
end
theorem repr_k {d : D} {P : D → Prop} (h : tk 40 d = true) (hl : tw d ≤ 16777216) (hP : P (.str (told d))) : reprW [d] P := by
  obtain ⟨h1, h2, h3, h4⟩ := tk_ok 40 d h
  refine ⟨⟨h1, h2, h3, ?_⟩, hP⟩
  rw [sizeLine_eq]
  exact Nat.le_trans h4 hl
theorem tkL_map {α : Type} {f : α → D} {n : Nat} : ∀ {xs : List α}, (∀ x ∈ xs, tk n (f x) = true) → tkL n (xs.map f) = true
  | [], _ => by simp [tkL]
  | x :: xs, h => by
    rw [List.map_cons, tkL, h x (.head _), tkL_map fun y hy => h y (.tail _ hy)]
    rfl
theorem twL_map {α : Type} {f : α → D} {B : Nat} : ∀ {xs : List α}, (∀ x ∈ xs, tw (f x) ≤ B) → twL (xs.map f) ≤ (B + 2) * xs.length
  | [], _ => by simp [twL]
  | x :: xs, h => by
    have h1 := h x (.head _)
    have h2 := twL_map (xs := xs) fun y hy => h y (.tail _ hy)
    rw [List.map_cons, twL, List.length_cons, Nat.mul_succ]
    omega
end Dt

/-! P2: texts put together and split. -/
namespace Dt
open PySem L2
abbrev chs (s : Str) : List Nat := s.cps.toList
theorem str_ext {a b : Str} (h : chs a = chs b) : a = b := Str.ext' (Array.toList_inj.mp h)
theorem chs_append (a b : Str) : chs (a ++ b) = chs a ++ chs b := by
  show (a ++ b).cps.toList = _
  rw [Str.cps_append, Array.toList_append]
def jl (sep : List Nat) : List (List Nat) → List Nat
  | [] => []
  | [x] => x
  | x :: y :: r => x ++ (sep ++ jl sep (y :: r))
theorem chs_join (sep : Str) : ∀ ps : List Str, chs (Str.join sep ps) = jl (chs sep) (ps.map chs)
  | [] => rfl
  | [x] => rfl
  | x :: y :: r => by
    have ih := chs_join sep (y :: r)
    have e : Str.join sep (x :: y :: r) = x ++ sep ++ Str.join sep (y :: r) := rfl
    rw [e, chs_append, chs_append, ih, List.append_assoc]
    rfl
theorem cut_inj {c : Nat} : ∀ {p q A B : List Nat}, c ∉ p → c ∉ q → p ++ c :: A = q ++ c :: B → p = q ∧ A = B
  | [], [], A, B, _, _, h => by simpa using h
  | [], x :: q, A, B, _, hq, h => by
    simp at h
    exact absurd (by rw [h.1]; simp) hq
  | x :: p, [], A, B, hp, _, h => by
    simp at h
    exact absurd (by rw [← h.1]; simp) hp
  | x :: p, y :: q, A, B, hp, hq, h => by
    simp only [List.cons_append, List.cons.injEq] at h
    obtain ⟨rfl, h⟩ := h
    obtain ⟨h1, h2⟩ := cut_inj (fun z => hp (.tail _ z)) (fun z => hq (.tail _ z)) h
    exact ⟨by rw [h1], h2⟩
theorem jl_uniq {c : Nat} : ∀ {ps qs : List (List Nat)}, ps ≠ [] → qs ≠ [] → (∀ p ∈ ps, c ∉ p) → (∀ q ∈ qs, c ∉ q) → jl [c] ps = jl [c] qs → ps = qs
  | [], _, h, _, _, _, _ => absurd rfl h
  | _, [], _, h, _, _, _ => absurd rfl h
  | [p], [q], _, _, _, _, h => by simpa [jl] using h
  | [p], q :: q2 :: r, _, _, hp, _, h => by
    simp only [jl] at h
    exact absurd (by rw [h]; simp) (hp p (.head _))
  | p :: p2 :: r, [q], _, _, _, hq, h => by
    simp only [jl] at h
    exact absurd (by rw [← h]; simp) (hq q (.head _))
  | p :: p2 :: r, q :: q2 :: r', _, _, hp, hq, h => by
    simp only [jl, List.cons_append, List.nil_append] at h
    obtain ⟨h1, h2⟩ := cut_inj (hp p (.head _)) (hq q (.head _)) h
    rw [h1, jl_uniq (by simp) (by simp) (fun z hz => hp z (.tail _ hz)) (fun z hz => hq z (.tail _ hz)) h2]
theorem split_join (c : Nat) {ps : List Str} (h0 : ps ≠ []) (hp : ∀ p ∈ ps, c ∉ chs p) : Txt.split (Str.join ⟨#[c]⟩ ps) ⟨#[c]⟩ = ps := by
  have h1 := PySem.StrLaws.join_split (Str.join ⟨#[c]⟩ ps) ⟨#[c]⟩
  have h2 := PySem.StrLaws.split_free (Str.join ⟨#[c]⟩ ps) c
  have h3 := PyProof.Rows.split_pos (Str.join ⟨#[c]⟩ ps) ⟨#[c]⟩
  have h4 := congrArg chs h1
  rw [chs_join, chs_join] at h4
  have h5 := jl_uniq (c := c) (by intro e; have := congrArg List.length e; rw [List.length_map] at this; simp at this; rw [this] at h3; simp at h3) (by simpa using h0) (fun p hp' => by
    obtain ⟨q, hq, rfl⟩ := List.mem_map.mp hp'
    exact h2 q hq) (fun p hp' => by
    obtain ⟨q, hq, rfl⟩ := List.mem_map.mp hp'
    exact hp q hq) h4
  have inj : ∀ as bs : List Str, as.map chs = bs.map chs → as = bs := by
    intro as
    induction as with
    | nil => intro bs h; cases bs <;> simp_all
    | cons a as ih =>
      intro bs h
      cases bs with
      | nil => simp at h
      | cons b bs =>
        simp only [List.map_cons, List.cons.injEq] at h
        rw [str_ext h.1, ih bs h.2]
  exact inj _ _ h5
theorem mem_jl {sep : List Nat} {c : Nat} : ∀ {ps : List (List Nat)} {p : List Nat}, p ∈ ps → c ∈ p → c ∈ jl sep ps
  | [x], p, h, hc => by
    simp at h
    rw [← h]
    exact hc
  | x :: y :: r, p, h, hc => by
    simp only [jl, List.mem_append]
    rcases List.mem_cons.mp h with rfl | h
    · exact .inl hc
    · exact .inr (.inr (mem_jl h hc))
theorem part_chs {x y p : Str} (h : p ∈ Txt.split x y) : ∀ c ∈ chs p, c ∈ chs x := fun c hc => by
  have h1 := congrArg chs (PySem.StrLaws.join_split x y)
  rw [chs_join] at h1
  rw [← h1]
  exact mem_jl (List.mem_map.mpr ⟨p, h, rfl⟩) hc
theorem strOk_iff {s : Str} : PyData.strOk s = true ↔ ∀ c ∈ chs s, c < 0x110000 := by
  unfold PyData.strOk
  rw [← Array.all_toList, List.all_eq_true]
  simp
theorem part_ok {x y p : Str} (h : p ∈ Txt.split x y) (hx : PyData.strOk x = true) : PyData.strOk p = true := strOk_iff.mpr fun c hc => strOk_iff.mp hx c (part_chs h c hc)
theorem part_len {x y p : Str} (h : p ∈ Txt.split x y) : p.length ≤ x.length := PyProof.Rows.part_short h
theorem txt_join' (sep : Str) (l : List Str) : Txt.join sep l = Str.join sep l := PySem.StrLaws.glued_eq_join sep l
/-- lines, each with its end -/
theorem join_ends (e : Str) : ∀ ls : List Str, Str.join "" (ls.map (· ++ e)) = Str.join e (ls ++ [("" : Str)])
  | [] => rfl
  | [x] => by
    refine str_ext ?_
    show chs (x ++ e) = chs (x ++ e ++ "")
    rw [chs_append (x ++ e)]
    simp [chs]
    rfl
  | x :: y :: r => by
    have ih := join_ends e (y :: r)
    refine str_ext ?_
    have e1 : Str.join "" ((x :: y :: r).map (· ++ e)) = (x ++ e) ++ "" ++ Str.join "" ((y :: r).map (· ++ e)) := rfl
    have e2 : Str.join e ((x :: y :: r) ++ [("" : Str)]) = x ++ e ++ Str.join e ((y :: r) ++ [("" : Str)]) := rfl
    rw [e1, e2, ih, chs_append, chs_append, chs_append]
    have : chs ("" : Str) = [] := rfl
    rw [this, List.append_nil, chs_append, chs_append]
end Dt

/-! DtAg: stars in displays and targets; f(k = v, ..); lists unpacked; constants of the module. -/
namespace Dt
open PySem PySem.Spec PyProof.Rows L2
/-! ### *e in a display -/
section
variable {X : Cx} {E : XK} {e : Expr} {es : List Expr} {wa : WE} {wr : WA} {pos p : Pos}
def wStar (wa : WE) (wr : WA) : WA := fun c n δ P => wa c n δ fun n1 d => ∃ xs, seqD d = some xs ∧ wr c n1 δ fun n2 ds => P n2 (xs ++ ds)
theorem da_star (ha : DE X E e wa) (hr : DA X E es wr) (hs : starEach (.Starred e p :: es) X.env = (true, eval e X.env) :: starEach es X.env := by rfl) : DA X E (.Starred e p :: es) (wStar wa wr) := by
  obtain ⟨_, pa, sa⟩ := ha
  obtain ⟨_, pr, sr⟩ := hr
  refine ⟨_, StX.pa_star pa pr hs, fun Z I0 H0 cx n δ σ I H P Q hx he hw hq =>
    sa Z I0 H0 cx n δ σ I H _ _ hx he hw fun d v n1 I1 H1 s1 r1 ⟨xs, hxs, h1⟩ => ?_⟩
  obtain ⟨b, a, us, rfl, hs1, rl⟩ := sSq_of r1 hxs
  have hsq : SqT X.K H1 a us ∨ SqL X.K H1 a us := by
    have := sSq_le s1.wk.ih hs1
    cases b with
    | true => exact .inr this
    | false => exact .inl this
  exact ⟨a, us, rfl, hsq, sr Z I0 H0 cx n1 δ σ I1 H1 _ _ hx (he.step s1) h1 fun ds vs n2 I2 H2 s2 r2 h2 => hq (xs ++ ds) (us ++ vs) n2 I2 H2 (s1.trans s2) ((rl.mono s2.ex).append r2) h2⟩
end
/-! ### f(k = v, ..) -/
structure GFnK (P : Program) (w : World) (K : PySem.W.Frag) (mg : Str → Option Value) (base : Heap) (x : Str) (j : Nat) (ks : List Str) (p : List D → List D) (cf : Con) : Prop where
  ex : ∃ (f : Addr) (fd : FuncData) (ps : List Str) (g : List Value → List Value → List Value) (gV : List V → List V → List V), FnOk P w K mg base (L2.CX P w) j f fd ps (spOf K cf) ∧ mg x = some (.ref f) ∧ PySem.W.keepIn K (.ref f) = true ∧ KBn K fd ps 0 ks g gV ∧
    ∀ (zs : List V) (I : Hp) (ds : List D), RepL K I zs ds → ds.length = ks.length → RepL K I (gV [] zs) (p ds)
section
variable {X : Cx} {E : XK} {k j : Nat} {q : Bool} {wa : WA} {p pos : Pos} {x : Str} {cf : Con} {kws : List Keyword} {ks : List Str} {pm : List D → List D}
theorem de_callK (g : Gx X E k q) (F : GFnK X.prog X.w X.K X.mg X.base x j ks pm cf) (hk : DK X E kws wa) (hj : j ≤ k := by decide) (hg : Gl X x := by rfl) (hall : (backToKw pos (keywordEach kws X.env)).all (·.1.isSome) = true := by rfl) (hks : (backToKw pos (keywordEach kws X.env)).filterMap (·.1) = ks := by rfl) (hdb : (x == ("__debug__" : Str)) = false := by decide)
    (hpl : ((backTo pos (starEach [] X.env)).any (·.1) || (backToKw pos (keywordEach kws X.env)).any (·.1.isNone)) = false := by rfl) : DE X E (.Call (.Name x p) [] kws pos) (wCallK cf ks.length pm wa) := by
  obtain ⟨f, fd, ps, gg, gV, F1, hm, hkp, hb, hr⟩ := F.ex
  obtain ⟨t, pk, sk⟩ := hk
  refine ⟨fun σ H Q => t σ H fun zs H1 => zs.length = ks.length ∧ spOf X.K cf (gV [] zs) H1 Q E, ⟨fun pins s σ H Q I h => ?_⟩, fun Z I0 H0 cx n δ σ I H P Q hx he hw hq => sk Z I0 H0 cx n δ σ I H _ _ hx he hw fun ds vs n1 I1 H1 s1 r1 ⟨hl, h1⟩ => ⟨by rw [r1.length]; exact hl, ?_⟩⟩
  · refine wpAny_Call_Name_kw (ld_glob I hg hm ?_ hdb)
    refine PySem.W.callWith_KW0 (h₀ := X.base) I.ok.mod.kin hkp hall ?_ hpl
    refine thn (pk.run pos pins s σ H _ I h) fun ws s2 ⟨zs, H2, I2, rz, l2, q2⟩ => ⟨I2.kIn, ?_⟩
    rw [hks]
    exact run_fnN (us := []) (vs := []) F1 (g.room.mono hj) hb g.pass I2 .nil rz rfl l2 q2
  · exact ⟨Z, n1, I1, pm ds, P, cx, s1.wk, hr vs I1 ds r1 hl, h1, fun d v n2 I2 H2 s2 => hq d v n2 I2 H2 (s1.trans s2), fun y d n2 I2 H2 s2 => hx y d n2 I2 H2 ((he.st.trans s1).trans s2)⟩
end
/-! ### a, b, .. = a list or a tuple -/
def gU (n : Nat) (r : WGs) : WG := fun d δ P => match d with
  | .tup ds => ds.length = n ∧ r ds δ P
  | .lst ds => ds.length = n ∧ r ds δ P
  | _ => False
section
variable {X : Cx} {E : XK} {k : Nat} {x : Str} {pos : Pos} {e : Expr} {es : List Expr} {ts us : List Nat}
theorem pg_or {tg : Expr} {t u : TG} (h1 : PG X tg t) (h2 : PG X tg u) : PG X tg (fun v σ H Q => t v σ H Q ∨ u v σ H Q) := ⟨fun pins s σ H v z Q I r h => h.elim (h1.run pins s σ H v z Q I r) (h2.run pins s σ H v z Q I r)⟩
theorem dg_seq (g : X.calm = true) {k : Nat} {r : WGs} {n : Nat} (h : DGs X es ts r) (hn : (assignEach es X.env).length = n := by rfl) (hst : (assignEach es X.env).findIdx? (·.1) = none := by rfl) : DG X (.Tuple es k pos) ts (gU n r) := by
  obtain ⟨_, p, s⟩ := h
  refine ⟨_, pg_or (pg_tup g p hn hst) (pg_lst g p hn hst), fun Z I0 H0 n δ σ I H v d P Q he rp hw hq => ?_⟩
  cases rp with
  | tup h1 r1 => exact .inl ⟨_, _, rfl, he.wk.ih.sqT h1, by rw [r1.length]; exact hw.1, s Z I0 H0 n δ σ I H _ _ _ _ he r1 hw.2 hq⟩
  | lst h1 r1 => exact .inr ⟨_, _, rfl, .inl (.inl (he.wk.ih _ _ h1)), by rw [r1.length]; exact hw.1, s Z I0 H0 n δ σ I H _ _ _ _ he r1 hw.2 hq⟩
  | _ => exact hw.elim
end
/-! ### a, *b = a list -/
section
variable {prog : Program} {w : World} {A : Around} {E : Value → Shared → Prop} {s : Shared}
theorem star_items {l : Addr} {items : Array Value} {n i : Nat} {first mids lasts : List Value} {Q : List Value → Shared → Prop} (hl : s.heap.IsList l items) (hh : A.handled = none) (hi : i < n) (hn : n ≤ items.size + 1) (hz : items.size ≤ sizeLine)
    (h1 : items.toList.take i = first) (h2 : (items.toList.drop i).take (items.size + 1 - n) = mids) (h3 : (items.toList.drop i).drop (items.size + 1 - n) = lasts)
    (h : ∀ (h' : Heap) (tk : Nat), (∀ b o, s.heap.get? b = some o → h'.get? b = some o) → Q (first ++ [.ref h'.objs.size] ++ lasts) { s with heap := h'.push (seqObj "list" mids.toArray 0), toks := tk }) : wpAny (model prog w) A (unpackItems (.ref l) n (some i)) Q E s := by
  subst h1 h2 h3
  have hlt : l ≠ s.heap.objs.size := by obtain ⟨o, ho, _⟩ := hl; exact Nat.ne_of_lt (Heap.lt_size ho)
  have hll : l < s.heap.objs.size := by obtain ⟨o, ho, _⟩ := hl; exact Heap.lt_size ho
  unfold unpackItems
  refine wpAny_bind ?_
  unfold notIterableAtAll
  refine wpAny_bind (wpAny_specialOf hl.typeIs PySem.F.slot_list_iter.lookup ?_)
  refine wpAny_pure ?_
  simp only [Bool.false_eq_true, if_false]
  refine wpAny_bind (wpAny_holding (wpAny_pyIter_list hl ?_))
  refine wpAny_bind (wpAny_holding (PySem.W.kun_draw hlt i 0 _ _ ⟨_, Heap.get?_push_size _ rfl, rfl, rfl⟩ (hl.push _) (by omega) fun h₁ hit₁ hs₁ => ?_))
  have hl₁ : h₁.IsList l items := (hl.push _).extBut hs₁.extBut hlt
  rw [Nat.zero_add] at hit₁
  have hit₁' := hit₁
  obtain ⟨oi, hoi, _⟩ := hit₁'
  have hl₁' := hl₁
  obtain ⟨ol, hol, _⟩ := hl₁'
  rw [List.drop_zero]
  have hfl : (items.toList.take i).length = i := by rw [List.length_take, Array.length_toList]; omega
  rw [if_neg (show ¬ ((items.toList.take i).length < i) by rw [hfl]; omega)]
  refine wpAny_bind (wpAny_holding (PySem.W.kun_collect (s := { s with heap := h₁ }) (T := "list_iterator") (.inr (.inr (.inl rfl))) (Walks.list (A := A.in1) hh s.heap.objs.size l hlt items) (fun j u st => st.1.typeIs) (k := i) (by omega) ⟨hit₁, hl₁⟩ (Heap.lt_size hoi) (Heap.lt_size hol) (fun h₂ tk hk => ?_) hz))
  have hrl : (items.toList.drop i).length = items.size - i := by rw [List.length_drop, Array.length_toList]
  have hmid : (items.toList.drop i).length - (n - 1 - i) = items.size + 1 - n := by rw [hrl]; omega
  show wpAny _ _ (if (items.toList.drop i).length < n - 1 - i then _ else _) _ _ _
  rw [if_neg (by rw [hrl]; omega)]
  show wpAny _ _ (newList ((items.toList.drop i).take ((items.toList.drop i).length - (n - 1 - i))) >>= fun d => pure (items.toList.take i ++ [d] ++ (items.toList.drop i).drop ((items.toList.drop i).length - (n - 1 - i)))) _ _ _
  rw [hmid]
  have he : ∀ b o, s.heap.get? b = some o → h₂.get? b = some o := fun b o e => hk b o (Nat.ne_of_lt (Heap.lt_size e)) (hs₁.extBut b o (Nat.ne_of_lt (Heap.lt_size e)) (Heap.get?_push_of_some _ e))
  exact wpAny_bind (wpAny_newList (wpAny_pure (h h₂ tk he)))
end
/-- a, *b, .. = a list: at least so many items; the star is the i-th of n -/
def gStV (K : PySem.W.Frag) (n i : Nat) (t : TGs) : TG := fun v σ H Q => ∃ a xs, v = .ref a ∧ SqL K H a xs ∧ n ≤ xs.length + 1 ∧ ∀ q, H q = none → t (xs.take i ++ [.ref q] ++ (xs.drop i).drop (xs.length + 1 - n)) σ (upd H q (.lst ((xs.drop i).take (xs.length + 1 - n)))) Q
section
variable {X : Cx} {pos : Pos}
theorem pg_star {es : List Expr} {k : Nat} {t : TGs} {n i : Nat} (hc : X.calm = true) (h : PGs X es t) (hi : i < n) (hn : (assignEach es X.env).length = n := by rfl) (hst : (assignEach es X.env).findIdx? (·.1) = some i := by rfl) : PG X (.Tuple es k pos) (gStV X.K n i t) := by
  refine ⟨fun pins s σ H v u Q I r hw => ?_⟩
  obtain ⟨a, xs, e1, hq, hl, hw⟩ := hw
  subst e1
  cases r
  obtain ⟨its, rv, pl, hz⟩ := I.list hq
  have hlen := rv.length
  rw [PyProof.Rows.assign_Tuple]
  refine wpAny_bind (wpAny_standAt ?_)
  unfold unpack
  rw [hn, hst]
  have hsz : its.toArray.size = xs.length := by simp [hlen]
  refine wpAny_bind (wpAny_holding (star_items pl.isList (I.ok.hd hc) hi (by rw [hsz]; exact hl) (by rw [hsz]; exact hz) rfl rfl rfl fun h' tk hx => ?_))
  have I1 : Inv X pins σ H { s with heap := h', toks := tk } := I.kept (t' := tk) hx
  have hf : H h'.objs.size = none := I1.hok.fresh (Nat.le_refl _)
  have rm : Vals ((xs.drop i).take (xs.length + 1 - n)) ((its.drop i).take (its.toArray.size + 1 - n)) := by rw [hsz]; exact (rv.drop i).take _
  have I2 : Inv X pins σ (upd H h'.objs.size (.lst ((xs.drop i).take (xs.length + 1 - n)))) { s with heap := h'.push (seqObj "list" ((its.drop i).take (its.toArray.size + 1 - n)).toArray 0), toks := tk } := I1.laid (t' := tk) (fun b u e => Heap.get?_push_of_some _ e) (Nat.le_refl _) ⟨by
    have : xs.length ≤ sizeLine := hz
    rw [List.length_take, List.length_drop]
    omega, _, 0, rm, Heap.get?_push_size _ rfl⟩
  refine h.run pins _ σ _ _ _ Q I2 ?_ (hw _ hf)
  refine ((rv.take i).append (.cons (show L2.RelV (V.ref _) (Value.ref _) from rfl) .nil)).append ?_
  rw [hsz]
  exact (rv.drop i).drop _
end
section
variable {X : Cx} {E : XK} {k : Nat} {pos : Pos} {e : Expr} {es : List Expr} {ts : List Nat}
def wStA (n i : Nat) (w : WE) (r : WGs) : WS := fun c De n0 δ => w c n0 δ fun n1 d => asL d fun ds => n ≤ ds.length + 1 ∧ r (ds.take i ++ [.lst ((ds.drop i).take (ds.length + 1 - n))] ++ (ds.drop i).drop (ds.length + 1 - n)) δ (De.nx n1)
theorem ds_star {w : WE} {r : WGs} {n : Nat} (i : Nat) {kt : Nat} {pt : Pos} (g : X.calm = true) (h : DE X E e w) (hg : DGs X es ts r) (hi : i < n := by decide) (hn : (assignEach es X.env).length = n := by rfl) (hst : (assignEach es X.env).findIdx? (·.1) = some i := by rfl)
    (hs : swapsWithSole [.Tuple es kt pt] e pos.line X.env = pure false := by rfl) (hw : swappedStores [.Tuple es kt pt] e X.env = pure none := by rfl) (h1 : (assignEach [.Tuple es kt pt] X.env).map (·.2) = [assign (.Tuple es kt pt) X.env] := by rfl) : DS X E (.Assign [.Tuple es kt pt] e pos) (wStA n i w r) := by
  obtain ⟨_, p, s⟩ := h
  obtain ⟨_, q, t⟩ := hg
  refine ⟨_, ps_asg p (pg_star g q hi hn hst) hs hw h1, fun Z I0 H0 cx De D' n0 δ σ I H hx ho he hw => s Z I0 H0 cx n0 δ σ I H _ _ hx he hw fun d v n1 I1 H1 s1 r1 h1 => ?_⟩
  cases r1 with
  | @lst _ vs ds g0 r0 =>
    obtain ⟨h2, h3⟩ := h1
    refine ⟨_, _, rfl, .inl (.inl (s1.wk.ih _ _ g0)), by rw [r0.length]; exact h2, ?_⟩
    rw [r0.length]
    intro q hq
    have s2 := s1.wk.laid (o := .lst ((vs.drop i).take (ds.length + 1 - n))) hq
    have rr := r0.mono s2.ex
    refine t Z I0 H0 n1 δ σ _ _ _ _ _ _ ((he.step s1).step s2) ?_ h3 fun δ' σ' he' _ h' => ho.nx n1 δ' σ' _ _ (s1.ex.trans s2.ex) he' h'
    exact ((rr.take i).append (.cons (.lst upd_same ((rr.drop i).take _)) .nil)).append ((rr.drop i).drop _)
  | _ => exact h1.elim
end

section
variable {X : Cx} {e : Expr} {es : List Expr} {ts us : List Nat} {p : Pos}
theorem pgs_consS {t : TG} {u : TGs} (h1 : PG X e t) (h2 : PGs X es u) (hs : (assignEach (.Starred e p :: es) X.env).map (·.2) = assign e X.env :: (assignEach es X.env).map (·.2) := by rfl) : PGs X (.Starred e p :: es) (gCons t u) := by
  refine ⟨fun pins s σ H vs us Q I r h => ?_⟩
  obtain ⟨v, vr, e1, h⟩ := h
  subst e1
  cases r with
  | cons r1 r2 =>
    rw [hs]
    refine assignInOrder_cons (thn (h1.run pins s σ H _ _ _ I r1 h) fun _ s1 ⟨σ1, H1, I1, q1⟩ => ?_)
    exact h2.run pins s1 σ1 H1 _ _ Q I1 r2 q1
theorem dgs_consS {g : WG} {r : WGs} (h1 : DG X e ts g) (h2 : DGs X es us r) (hs : (assignEach (.Starred e p :: es) X.env).map (·.2) = assign e X.env :: (assignEach es X.env).map (·.2) := by rfl) : DGs X (.Starred e p :: es) (ts ++ us) (gsCons g r) := by
  obtain ⟨_, p, s⟩ := h1
  obtain ⟨_, q, t⟩ := h2
  refine ⟨_, pgs_consS p q hs, fun Z I0 H0 n δ σ I H v d P Q he r hw hq => ?_⟩
  cases r with
  | nil => exact hw.elim
  | cons h r =>
    refine ⟨_, _, rfl, s Z I0 H0 n δ σ I H _ _ _ _ he h hw fun δ' σ' he' o hw' => t Z I0 H0 n δ' σ' I H _ _ _ _ he' r hw' fun δ2 σ2 he2 o2 => hq δ2 σ2 he2 ⟨fun i hi => ?_, o2.len.trans o.len⟩⟩
    rw [List.mem_append, not_or] at hi
    rw [o2.out i hi.2, o.out i hi.1]
end
/-! ### constants of the module -/
def leafB (v : Value) (d : D) : Bool := match d with
  | .non => (match v with | .none => true | _ => false)
  | .bl c => (match v with | .bool b => decide (b = c) | _ => false)
  | .int j => (match v with | .int i _ => decide (i = j) | _ => false)
  | .str t => (match v with | .str s _ => decide (s = t) | _ => false)
  | _ => false
def allB (f : Value → D → Bool) : List Value → List D → Bool
  | [], [] => true
  | v :: vs, d :: ds => f v d && allB f vs ds
  | _, _ => false
def repB (K : PySem.W.Frag) : Nat → Value → D → Bool
  | 0, v, d => leafB v d
  | n + 1, v, d => match d with
    | .tup ds => (match v with
      | .ref a => (match K.lookup a with
        | some ⟨.type c, _, .seq its _, _⟩ => decide (c = "tuple") && (decide (its.size ≤ sizeLine) && allB (repB K n) its.toList ds)
        | _ => false)
      | _ => false)
    | d => leafB v d
theorem leafB_ok {K : PySem.W.Frag} (I : Hp) {v : Value} {d : D} (h : leafB v d = true) : ∃ u, L2.RelV u v ∧ Rep K I u d := by
  unfold leafB at h
  split at h
  · split at h
    · exact ⟨.non, rfl, .non⟩
    · cases h
  · split at h
    · cases of_decide_eq_true h
      exact ⟨.bl _, rfl, .bl _⟩
    · cases h
  · split at h
    · cases of_decide_eq_true h
      exact ⟨.int _, ⟨_, rfl⟩, .int _⟩
    · cases h
  · split at h
    · cases of_decide_eq_true h
      exact ⟨.str _, ⟨_, rfl⟩, .str _⟩
    · cases h
  · cases h
theorem allB_ok {K : PySem.W.Frag} {I : Hp} {f : Value → D → Bool} (hf : ∀ v d, f v d = true → ∃ u, L2.RelV u v ∧ Rep K I u d) : ∀ (vs : List Value) (ds : List D), allB f vs ds = true → ∃ us, Vals us vs ∧ RepL K I us ds
  | [], [], _ => ⟨[], .nil, .nil⟩
  | v :: vs, d :: ds, h => by
    obtain ⟨h1, h2⟩ := He.ba (show (f v d && allB f vs ds) = true from h)
    obtain ⟨u, h1, h2⟩ := hf v d h1
    obtain ⟨us, h3, h4⟩ := allB_ok hf vs ds ‹_›
    exact ⟨u :: us, .cons h1 h3, .cons h2 h4⟩
  | [], _ :: _, h => by cases h
  | _ :: _, [], h => by cases h
theorem repB_ok {K : PySem.W.Frag} (I : Hp) : ∀ (n : Nat) (v : Value) (d : D), repB K n v d = true → ∃ u, L2.RelV u v ∧ Rep K I u d := by
  intro n
  induction n with
  | zero => exact fun v d h => leafB_ok I h
  | succ n ih =>
    intro v d h
    unfold repB at h
    split at h
    · split at h
      · split at h
        · rename_i ds _ a _ c od its m sl q
          obtain ⟨h1, h⟩ := He.ba h
          obtain ⟨h2, h3⟩ := He.ba h
          obtain ⟨us, r1, r2⟩ := allB_ok ih its.toList ds h3
          exact ⟨.ref a, rfl, .tup (.inr ⟨_, its, m, q, congrArg Value.type (of_decide_eq_true h1), rfl, of_decide_eq_true h2, r1⟩) r2⟩
        · cases h
      · cases h
    · exact leafB_ok I h
theorem repG_ok {K : PySem.W.Frag} {x : Str} {d : D} (h : repB K 8 (.ref (He.ga K x)) d = true) (I : Hp) : Rep K I (.ref (He.ga K x)) d := by
  obtain ⟨u, h1, h2⟩ := repB_ok I 8 _ d h
  cases u with
  | ref a =>
    cases (show Value.ref (He.ga K x) = Value.ref a from h1)
    exact h2
  | non => cases h1
  | bl _ => cases h1
  | int _ =>
    obtain ⟨_, h1⟩ := h1
    cases h1
  | str _ =>
    obtain ⟨_, h1⟩ := h1
    cases h1
  | byt _ =>
    obtain ⟨_, h1⟩ := h1
    cases h1
  | flt _ =>
    obtain ⟨_, h1⟩ := h1
    cases h1
  | _ => cases h1
end Dt

namespace Pk
open PySem PySem.Spec PyProof.Rows L2 Dt
def lowB (c : Nat) : Bool := decide (97 ≤ c ∧ c ≤ 122)
def nameB (s : Str) : Bool := decide (1 ≤ s.length ∧ s.length ≤ 8) && s.cps.toList.all lowB
def isNm : D → Bool
  | .str s => nameB s
  | _ => false
theorem low_mem (c : Nat) : decide (c ∈ ("abcdefghijklmnopqrstuvwxyz" : Str).cps.toList) = lowB c := by
  have e : ("abcdefghijklmnopqrstuvwxyz" : Str).cps.toList = (List.range 26).map (· + 97) := by decide +kernel
  rw [e]
  unfold lowB
  by_cases h : 97 ≤ c ∧ c ≤ 122
  · rw [decide_eq_true h]
    refine decide_eq_true (List.mem_map.mpr ⟨c - 97, List.mem_range.mpr (by omega), by omega⟩)
  · rw [decide_eq_false h]
    refine decide_eq_false fun hm => ?_
    obtain ⟨x, hx, rfl⟩ := List.mem_map.mp hm
    have := List.mem_range.mp hx
    omega
def w_is_name (K : PySem.W.Frag) : WS := (wSeq (wIfS (wOr (wNot (wTru (wCB (isiXW K) (wCons (wVar 0) (wCons (wC (.obj (.ty "str"))) wNil))))) (wNot (wB (wCh ileW ileW (wC (.int 1)) (wCB lenW (wCons (wVar 0) wNil)) (wC (.int 8)))))) (wRet (wC (.bl false))) (fun _ De n δ => De.nx n δ)) (wRet (wCB allW (wCons (wLc (wItems (wVar 0)) (gN 1) wYes (wOp inW (wVar 1) (wC (.str "abcdefghijklmnopqrstuvwxyz"))) [1]) wNil))))
-- slots of is_name: 0 value, 1 letter
def cf_is_name (K : PySem.W.Frag) : Con := fun c n ds P => match ds with
  | [d] => AV1 K d ∧ P n (.bl (isNm d))
  | _ => False
theorem pl_is_name {K : PySem.W.Frag} (c : Ct) (n : Nat) (ds : List D) (P : Nat → D → Prop) (h : cf_is_name K c n ds P) : w_is_name K c (De0 P) n (δ0 ["value", "letter"] ds) := by
  match ds, h with
  | [d], ⟨hd, hP⟩ =>
    simp only [w_is_name, Dt.wSeq, Dt.wIfS, Dt.wRet, Dt.wSet, Dt.wOwn, Dt.wAsg, Dt.wPar2, Dt.wPar3, Dt.xV, Dt.xO, Dt.wVar, Dt.wC, Dt.wCB, Dt.wCons, Dt.wNil, Dt.wOp, Dt.wTru, Dt.wB, Dt.wNot, Dt.wAnd, Dt.wOr, Dt.wV, Dt.wAndV, Dt.wOrV, Dt.wNotV, Dt.wIf, Dt.wCall, Dt.wLst, Dt.wTup, Dt.wLc, Dt.wForS, Dt.wItems, Dt.wEn, Dt.wZi, Dt.wRg1, Dt.wRg2, Dt.wSl, Dt.oNone, Dt.oSome, Dt.wJoin, Dt.wSplit, Dt.wDisp, Dt.psCons, Dt.psNil, Dt.wBor, Dt.wBorT, Dt.wBorF, Dt.wDrop, Dt.wNeg, Dt.wInt, Dt.wCh, Dt.wStar, Dt.wStA, Dt.gU, Dt.wRev, Dt.wProp, Dt.wFld, Dt.wRaise0, Dt.wRaise1, Dt.wApp, Dt.wSetI, Dt.wPutI, Dt.ownL, Dt.ownM, Dt.wCallD, Dt.wCallK, Dt.mPre, Dt.mSto, Dt.mNil, Dt.asB, Dt.asI, Dt.asS, Dt.asK, Dt.asL, Dt.truW, Dt.addW, Dt.addF, Dt.subW, Dt.iiW, Dt.ciW, Dt.ltW, Dt.leW, Dt.gtW, Dt.geW, Dt.mulW, Dt.fdivW, Dt.modW, Dt.iltW, Dt.iltW.iiB, Dt.ileW, Dt.ixW, Dt.slW, Dt.slF, Dt.lenW, Dt.intW, Dt.absW, Dt.ii2, Dt.listW, Dt.tupleW, Dt.dictW, Dt.inW, Dt.notInW, Dt.isNW, Dt.isNotNW, Dt.isN, Dt.lenOW, Dt.eqW_ii, Dt.neW_ii, Dt.eqW_bb, Dt.eqW_ss, Dt.neW_ss, Dt.isK_non_bool, Dt.isK_non_int, Dt.isK_non_str, Dt.isK_non_list, Dt.isK_non_tuple, Dt.isK_non_dict, Dt.isK_bl_bool, Dt.isK_bl_int, Dt.isK_bl_str, Dt.isK_bl_list, Dt.isK_bl_tuple, Dt.isK_bl_dict, Dt.isK_int_bool, Dt.isK_int_int, Dt.isK_int_str, Dt.isK_int_list, Dt.isK_int_tuple, Dt.isK_int_dict, Dt.isK_str_bool, Dt.isK_str_int, Dt.isK_str_str, Dt.isK_str_list, Dt.isK_str_tuple, Dt.isK_str_dict, Dt.isK_lst_bool, Dt.isK_lst_int, Dt.isK_lst_str, Dt.isK_lst_list, Dt.isK_lst_tuple, Dt.isK_lst_dict, Dt.isK_tup_bool, Dt.isK_tup_int, Dt.isK_tup_str, Dt.isK_tup_list, Dt.isK_tup_tuple, Dt.isK_tup_dict, Dt.isK_dct_bool, Dt.isK_dct_int, Dt.isK_dct_str, Dt.isK_dct_list, Dt.isK_dct_tuple, Dt.isK_dct_dict, Dt.isK_ins_bool, Dt.isK_ins_int, Dt.isK_ins_str, Dt.isK_ins_list, Dt.isK_ins_tuple, Dt.isK_ins_dict, Dt.gN, Dt.gT, Dt.gsCons, Dt.gsNil, Dt.δ0, Dt.frz, Dt.wipeD, Dt.keyD, Dt.De0, List.map_cons, List.map_nil, List.length_cons, List.length_nil, List.replicate_succ, List.replicate_zero, List.cons_append, List.nil_append, List.getElem?_cons_zero, List.getElem?_cons_succ, List.set_cons_zero, List.set_cons_succ, Nat.reduceSub, Nat.reduceAdd, Nat.zero_add, reduceIte, Bool.not_true, Bool.not_false, Bool.false_eq_true, Bool.not_eq_true, Bool.true_eq_false, true_and, and_true, ne_eq, decide_eq_true_eq, Bool.not_eq_eq_eq_not, decide_eq_false_iff_not, Option.isSome_some, Option.isSome_none, Bool.or_eq_true, Bool.and_eq_true]
    refine isi_k hd (by decide) ?_
    simp only [Dt.wSeq, Dt.wIfS, Dt.wRet, Dt.wSet, Dt.wOwn, Dt.wAsg, Dt.wPar2, Dt.wPar3, Dt.xV, Dt.xO, Dt.wVar, Dt.wC, Dt.wCB, Dt.wCons, Dt.wNil, Dt.wOp, Dt.wTru, Dt.wB, Dt.wNot, Dt.wAnd, Dt.wOr, Dt.wV, Dt.wAndV, Dt.wOrV, Dt.wNotV, Dt.wIf, Dt.wCall, Dt.wLst, Dt.wTup, Dt.wLc, Dt.wForS, Dt.wItems, Dt.wEn, Dt.wZi, Dt.wRg1, Dt.wRg2, Dt.wSl, Dt.oNone, Dt.oSome, Dt.wJoin, Dt.wSplit, Dt.wDisp, Dt.psCons, Dt.psNil, Dt.wBor, Dt.wBorT, Dt.wBorF, Dt.wDrop, Dt.wNeg, Dt.wInt, Dt.wCh, Dt.wStar, Dt.wStA, Dt.gU, Dt.wRev, Dt.wProp, Dt.wFld, Dt.wRaise0, Dt.wRaise1, Dt.wApp, Dt.wSetI, Dt.wPutI, Dt.ownL, Dt.ownM, Dt.wCallD, Dt.wCallK, Dt.mPre, Dt.mSto, Dt.mNil, Dt.asB, Dt.asI, Dt.asS, Dt.asK, Dt.asL, Dt.truW, Dt.addW, Dt.addF, Dt.subW, Dt.iiW, Dt.ciW, Dt.ltW, Dt.leW, Dt.gtW, Dt.geW, Dt.mulW, Dt.fdivW, Dt.modW, Dt.iltW, Dt.iltW.iiB, Dt.ileW, Dt.ixW, Dt.slW, Dt.slF, Dt.lenW, Dt.intW, Dt.absW, Dt.ii2, Dt.listW, Dt.tupleW, Dt.dictW, Dt.inW, Dt.notInW, Dt.isNW, Dt.isNotNW, Dt.isN, Dt.lenOW, Dt.eqW_ii, Dt.neW_ii, Dt.eqW_bb, Dt.eqW_ss, Dt.neW_ss, Dt.isK_non_bool, Dt.isK_non_int, Dt.isK_non_str, Dt.isK_non_list, Dt.isK_non_tuple, Dt.isK_non_dict, Dt.isK_bl_bool, Dt.isK_bl_int, Dt.isK_bl_str, Dt.isK_bl_list, Dt.isK_bl_tuple, Dt.isK_bl_dict, Dt.isK_int_bool, Dt.isK_int_int, Dt.isK_int_str, Dt.isK_int_list, Dt.isK_int_tuple, Dt.isK_int_dict, Dt.isK_str_bool, Dt.isK_str_int, Dt.isK_str_str, Dt.isK_str_list, Dt.isK_str_tuple, Dt.isK_str_dict, Dt.isK_lst_bool, Dt.isK_lst_int, Dt.isK_lst_str, Dt.isK_lst_list, Dt.isK_lst_tuple, Dt.isK_lst_dict, Dt.isK_tup_bool, Dt.isK_tup_int, Dt.isK_tup_str, Dt.isK_tup_list, Dt.isK_tup_tuple, Dt.isK_tup_dict, Dt.isK_dct_bool, Dt.isK_dct_int, Dt.isK_dct_str, Dt.isK_dct_list, Dt.isK_dct_tuple, Dt.isK_dct_dict, Dt.isK_ins_bool, Dt.isK_ins_int, Dt.isK_ins_str, Dt.isK_ins_list, Dt.isK_ins_tuple, Dt.isK_ins_dict, Dt.gN, Dt.gT, Dt.gsCons, Dt.gsNil, Dt.δ0, Dt.frz, Dt.wipeD, Dt.keyD, Dt.De0, List.map_cons, List.map_nil, List.length_cons, List.length_nil, List.replicate_succ, List.replicate_zero, List.cons_append, List.nil_append, List.getElem?_cons_zero, List.getElem?_cons_succ, List.set_cons_zero, List.set_cons_succ, Nat.reduceSub, Nat.reduceAdd, Nat.zero_add, reduceIte, Bool.not_true, Bool.not_false, Bool.false_eq_true, Bool.not_eq_true, Bool.true_eq_false, true_and, and_true, ne_eq, decide_eq_true_eq, Bool.not_eq_eq_eq_not, decide_eq_false_iff_not, Option.isSome_some, Option.isSome_none, Bool.or_eq_true, Bool.and_eq_true]
    cases d with
    | str s =>
      rw [if_neg (by simp [isK, tyN, isTy])]
      simp only [Dt.wSeq, Dt.wIfS, Dt.wRet, Dt.wSet, Dt.wOwn, Dt.wAsg, Dt.wPar2, Dt.wPar3, Dt.xV, Dt.xO, Dt.wVar, Dt.wC, Dt.wCB, Dt.wCons, Dt.wNil, Dt.wOp, Dt.wTru, Dt.wB, Dt.wNot, Dt.wAnd, Dt.wOr, Dt.wV, Dt.wAndV, Dt.wOrV, Dt.wNotV, Dt.wIf, Dt.wCall, Dt.wLst, Dt.wTup, Dt.wLc, Dt.wForS, Dt.wItems, Dt.wEn, Dt.wZi, Dt.wRg1, Dt.wRg2, Dt.wSl, Dt.oNone, Dt.oSome, Dt.wJoin, Dt.wSplit, Dt.wDisp, Dt.psCons, Dt.psNil, Dt.wBor, Dt.wBorT, Dt.wBorF, Dt.wDrop, Dt.wNeg, Dt.wInt, Dt.wCh, Dt.wStar, Dt.wStA, Dt.gU, Dt.wRev, Dt.wProp, Dt.wFld, Dt.wRaise0, Dt.wRaise1, Dt.wApp, Dt.wSetI, Dt.wPutI, Dt.ownL, Dt.ownM, Dt.wCallD, Dt.wCallK, Dt.mPre, Dt.mSto, Dt.mNil, Dt.asB, Dt.asI, Dt.asS, Dt.asK, Dt.asL, Dt.truW, Dt.addW, Dt.addF, Dt.subW, Dt.iiW, Dt.ciW, Dt.ltW, Dt.leW, Dt.gtW, Dt.geW, Dt.mulW, Dt.fdivW, Dt.modW, Dt.iltW, Dt.iltW.iiB, Dt.ileW, Dt.ixW, Dt.slW, Dt.slF, Dt.lenW, Dt.intW, Dt.absW, Dt.ii2, Dt.listW, Dt.tupleW, Dt.dictW, Dt.inW, Dt.notInW, Dt.isNW, Dt.isNotNW, Dt.isN, Dt.lenOW, Dt.eqW_ii, Dt.neW_ii, Dt.eqW_bb, Dt.eqW_ss, Dt.neW_ss, Dt.isK_non_bool, Dt.isK_non_int, Dt.isK_non_str, Dt.isK_non_list, Dt.isK_non_tuple, Dt.isK_non_dict, Dt.isK_bl_bool, Dt.isK_bl_int, Dt.isK_bl_str, Dt.isK_bl_list, Dt.isK_bl_tuple, Dt.isK_bl_dict, Dt.isK_int_bool, Dt.isK_int_int, Dt.isK_int_str, Dt.isK_int_list, Dt.isK_int_tuple, Dt.isK_int_dict, Dt.isK_str_bool, Dt.isK_str_int, Dt.isK_str_str, Dt.isK_str_list, Dt.isK_str_tuple, Dt.isK_str_dict, Dt.isK_lst_bool, Dt.isK_lst_int, Dt.isK_lst_str, Dt.isK_lst_list, Dt.isK_lst_tuple, Dt.isK_lst_dict, Dt.isK_tup_bool, Dt.isK_tup_int, Dt.isK_tup_str, Dt.isK_tup_list, Dt.isK_tup_tuple, Dt.isK_tup_dict, Dt.isK_dct_bool, Dt.isK_dct_int, Dt.isK_dct_str, Dt.isK_dct_list, Dt.isK_dct_tuple, Dt.isK_dct_dict, Dt.isK_ins_bool, Dt.isK_ins_int, Dt.isK_ins_str, Dt.isK_ins_list, Dt.isK_ins_tuple, Dt.isK_ins_dict, Dt.gN, Dt.gT, Dt.gsCons, Dt.gsNil, Dt.δ0, Dt.frz, Dt.wipeD, Dt.keyD, Dt.De0, List.map_cons, List.map_nil, List.length_cons, List.length_nil, List.replicate_succ, List.replicate_zero, List.cons_append, List.nil_append, List.getElem?_cons_zero, List.getElem?_cons_succ, List.set_cons_zero, List.set_cons_succ, Nat.reduceSub, Nat.reduceAdd, Nat.zero_add, reduceIte, Bool.not_true, Bool.not_false, Bool.false_eq_true, Bool.not_eq_true, Bool.true_eq_false, true_and, and_true, ne_eq, decide_eq_true_eq, Bool.not_eq_eq_eq_not, decide_eq_false_iff_not, Option.isSome_some, Option.isSome_none, Bool.or_eq_true, Bool.and_eq_true]
      refine ⟨by rw [sizeLine_eq]; have := hd.2; omega, ?_⟩
      have e : isNm (.str s) = (decide (1 ≤ s.length ∧ s.length ≤ 8) && s.cps.toList.all lowB) := rfl
      rw [e] at hP
      by_cases h1 : 1 ≤ s.length
      · rw [if_pos (by omega)]
        by_cases h2 : s.length ≤ 8
        · rw [if_neg (by omega)]
          refine ⟨_, rfl, by rw [sizeLine_eq, List.length_map, Array.length_toList]; have : s.length = s.cps.size := rfl; omega, ?_⟩
          refine loop_map (fun d => match d with | .str ⟨#[c]⟩ => .bl (lowB c) | _ => .non) _ _ (fun d hd Q hQ => ?_) ?_
          · obtain ⟨c, hc, rfl⟩ := List.mem_map.mp hd
            refine ⟨c, rfl, ?_⟩
            rw [low_mem]
            exact hQ
          · rw [List.map_map]
            refine all_map lowB _ _ ?_
            rw [decide_eq_true ⟨h1, h2⟩, Bool.true_and] at hP
            exact hP
        · rw [if_pos (by omega)]
          rw [decide_eq_false (fun z => h2 z.2), Bool.false_and] at hP
          exact hP
      · rw [if_neg (by omega)]
        rw [decide_eq_false (fun z => h1 z.1), Bool.false_and] at hP
        exact hP
    | _ =>
      rw [if_pos (by simp [isK, tyN, isTy])]
      exact hP
def w_are_names (K : PySem.W.Frag) : WS := (wSeq (wIfS (wOr (wNot (wTru (wIsiT K (wVar 0) (wCons (wC (.obj (.ty "list"))) (wCons (wC (.obj (.ty "tuple"))) wNil))))) (wNot (wB (wCh ileW ileW (wVar 1) (wCB lenW (wCons (wVar 0) wNil)) (wVar 2))))) (wRet (wC (.bl false))) (fun _ De n δ => De.nx n δ)) (wRet (wCB allW (wCons (wLc (wEn (wCons (wVar 0) wNil)) (gT 2 (gsCons (gN 3) (gsCons (gN 4) gsNil))) wYes (wAndV (wCall (cf_is_name K) (wCons (wVar 4) wNil)) (wOp notInW (wVar 4) (wSl slW (wVar 0) oNone (oSome (wVar 3))))) [3, 4]) wNil))))
-- slots of are_names: 0 value, 1 least, 2 most, 3 index, 4 name
def strsD : List D → List Str
  | [] => []
  | .str s :: xs => s :: strsD xs
  | _ :: xs => strsD xs
def areNm (d : D) (a b : Int) : Bool := match seqD d with
  | some xs => decide (a ≤ xs.length ∧ (xs.length : Int) ≤ b) && (xs.all isNm && decide (strsD xs).Nodup)
  | none => false
/-- a list of any values whose equality with a text is known -/
def cmpL (K : PySem.W.Frag) (d : D) : Prop := AV1 K d ∧ ∀ xs, seqD d = some xs → xs.length ≤ 1000000 ∧ (∀ x ∈ xs, AV1 K x) ∧ depL 60 xs = true
def cf_are_names (K : PySem.W.Frag) : Con := fun c n ds P => match ds with
  | [d, .int a, .int b] => cmpL K d ∧ P n (.bl (areNm d a b))
  | _ => False
theorem nameB_ok {s : Str} (h : nameB s = true) : PyData.strOk s = true := by
  unfold nameB at h
  have h2 := (Bool.and_eq_true_iff.mp h).2
  unfold PyData.strOk
  rw [← Array.all_toList, List.all_eq_true]
  intro c hc
  have := List.all_eq_true.mp h2 c hc
  unfold lowB at this
  have := of_decide_eq_true this
  exact decide_eq_true (by omega)
def namAt (xs : List D) (d : D) : Bool := match d with
  | .tup [.int i, x] => isNm x && !anyEq x (xs.take i.toNat)
  | _ => false
theorem seqK {d : D} : (isK d "list" || isK d "tuple") = (seqD d).isSome := by
  cases d <;> simp [isK, tyN, isTy, seqD]
theorem isNm_str {d : D} (h : isNm d = true) : ∃ s, d = .str s ∧ nameB s = true := by
  cases d <;> simp [isNm] at h
  exact ⟨_, rfl, h⟩
theorem strsD_append (xs ys : List D) : strsD (xs ++ ys) = strsD xs ++ strsD ys := by
  induction xs with
  | nil => rfl
  | cons x xs ih => cases x <;> simp [strsD, ih]
theorem strsD_mem (s : Str) (xs : List D) : xs.any (isStr · s) = decide (s ∈ strsD xs) := by
  rw [Bool.eq_iff_iff, decide_eq_true_iff]
  induction xs with
  | nil => simp [strsD]
  | cons x xs ih =>
    rw [List.any_cons, Bool.or_eq_true, ih]
    cases x with
    | str t => simp [strsD, isStr, eq_comm]
    | _ => simp [strsD, isStr]
theorem names_all : ∀ (xs ys : List D), (xs.mapIdx fun i d => D.tup [.int ((i + ys.length : Nat) : Int), d]).all (namAt (ys ++ xs)) = (xs.all isNm && decide (∀ a ∈ strsD ys, a ∉ strsD xs) && decide (strsD xs).Nodup)
  | [], ys => by simp [strsD]
  | x :: xs, ys => by
    rw [List.mapIdx_cons, List.all_cons]
    have ih := names_all xs (ys ++ [x])
    have e1 : ∀ i : Nat, i + (ys ++ [x]).length = i + 1 + ys.length := fun i => by rw [List.length_append]; simp; omega
    simp only [e1, List.append_assoc, List.cons_append, List.nil_append] at ih
    rw [ih]
    have e2 : namAt (ys ++ x :: xs) (.tup [.int ((0 + ys.length : Nat) : Int), x]) = (isNm x && !anyEq x ys) := by
      simp [namAt]
    rw [e2]
    cases q : isNm x with
    | false => simp [q]
    | true =>
      obtain ⟨s, rfl, hs⟩ := isNm_str q
      rw [anyEq_str, strsD_mem, strsD_append]
      rw [Bool.eq_iff_iff]
      simp only [strsD, List.all_cons, q, Bool.true_and, Bool.and_eq_true, decide_eq_true_eq, Bool.not_eq_true', decide_eq_false_iff_not, List.mem_append, List.mem_cons, List.not_mem_nil, or_false, List.nodup_cons]
      grind
theorem pl_are_names {K : PySem.W.Frag} (c : Ct) (n : Nat) (ds : List D) (P : Nat → D → Prop) (h : cf_are_names K c n ds P) : w_are_names K c (De0 P) n (δ0 ["value", "least", "most", "index", "name"] ds) := by
  match ds, h with
  | [d, .int a, .int b], ⟨⟨hd, hx⟩, hP⟩ =>
    simp only [w_are_names, wIsiT, Dt.wSeq, Dt.wIfS, Dt.wRet, Dt.wSet, Dt.wOwn, Dt.wAsg, Dt.wPar2, Dt.wPar3, Dt.xV, Dt.xO, Dt.wVar, Dt.wC, Dt.wCB, Dt.wCons, Dt.wNil, Dt.wOp, Dt.wTru, Dt.wB, Dt.wNot, Dt.wAnd, Dt.wOr, Dt.wV, Dt.wAndV, Dt.wOrV, Dt.wNotV, Dt.wIf, Dt.wCall, Dt.wLst, Dt.wTup, Dt.wLc, Dt.wForS, Dt.wItems, Dt.wEn, Dt.wZi, Dt.wRg1, Dt.wRg2, Dt.wSl, Dt.oNone, Dt.oSome, Dt.wJoin, Dt.wSplit, Dt.wDisp, Dt.psCons, Dt.psNil, Dt.wBor, Dt.wBorT, Dt.wBorF, Dt.wDrop, Dt.wNeg, Dt.wInt, Dt.wCh, Dt.wStar, Dt.wStA, Dt.gU, Dt.wRev, Dt.wProp, Dt.wFld, Dt.wRaise0, Dt.wRaise1, Dt.wApp, Dt.wSetI, Dt.wPutI, Dt.ownL, Dt.ownM, Dt.wCallD, Dt.wCallK, Dt.mPre, Dt.mSto, Dt.mNil, Dt.asB, Dt.asI, Dt.asS, Dt.asK, Dt.asL, Dt.truW, Dt.addW, Dt.addF, Dt.subW, Dt.iiW, Dt.ciW, Dt.ltW, Dt.leW, Dt.gtW, Dt.geW, Dt.mulW, Dt.fdivW, Dt.modW, Dt.iltW, Dt.iltW.iiB, Dt.ileW, Dt.ixW, Dt.slW, Dt.slF, Dt.lenW, Dt.intW, Dt.absW, Dt.ii2, Dt.listW, Dt.tupleW, Dt.dictW, Dt.inW, Dt.notInW, Dt.isNW, Dt.isNotNW, Dt.isN, Dt.lenOW, Dt.eqW_ii, Dt.neW_ii, Dt.eqW_bb, Dt.eqW_ss, Dt.neW_ss, Dt.isK_non_bool, Dt.isK_non_int, Dt.isK_non_str, Dt.isK_non_list, Dt.isK_non_tuple, Dt.isK_non_dict, Dt.isK_bl_bool, Dt.isK_bl_int, Dt.isK_bl_str, Dt.isK_bl_list, Dt.isK_bl_tuple, Dt.isK_bl_dict, Dt.isK_int_bool, Dt.isK_int_int, Dt.isK_int_str, Dt.isK_int_list, Dt.isK_int_tuple, Dt.isK_int_dict, Dt.isK_str_bool, Dt.isK_str_int, Dt.isK_str_str, Dt.isK_str_list, Dt.isK_str_tuple, Dt.isK_str_dict, Dt.isK_lst_bool, Dt.isK_lst_int, Dt.isK_lst_str, Dt.isK_lst_list, Dt.isK_lst_tuple, Dt.isK_lst_dict, Dt.isK_tup_bool, Dt.isK_tup_int, Dt.isK_tup_str, Dt.isK_tup_list, Dt.isK_tup_tuple, Dt.isK_tup_dict, Dt.isK_dct_bool, Dt.isK_dct_int, Dt.isK_dct_str, Dt.isK_dct_list, Dt.isK_dct_tuple, Dt.isK_dct_dict, Dt.isK_ins_bool, Dt.isK_ins_int, Dt.isK_ins_str, Dt.isK_ins_list, Dt.isK_ins_tuple, Dt.isK_ins_dict, Dt.gN, Dt.gT, Dt.gsCons, Dt.gsNil, Dt.δ0, Dt.frz, Dt.wipeD, Dt.keyD, Dt.De0, List.map_cons, List.map_nil, List.length_cons, List.length_nil, List.replicate_succ, List.replicate_zero, List.cons_append, List.nil_append, List.getElem?_cons_zero, List.getElem?_cons_succ, List.set_cons_zero, List.set_cons_succ, Nat.reduceSub, Nat.reduceAdd, Nat.zero_add, reduceIte, Bool.not_true, Bool.not_false, Bool.false_eq_true, Bool.not_eq_true, Bool.true_eq_false, true_and, and_true, ne_eq, decide_eq_true_eq, Bool.not_eq_eq_eq_not, decide_eq_false_iff_not, Option.isSome_some, Option.isSome_none, Bool.or_eq_true, Bool.and_eq_true]
    refine ⟨by decide, isiT_k (u := "list") (v := "tuple") hd (by decide) (by decide) ?_⟩
    rw [seqK]
    unfold areNm at hP
    cases q : seqD d with
    | none =>
      rw [q] at hP
      exact hP
    | some xs =>
      obtain ⟨h1, h2, h3⟩ := hx xs q
      rw [q] at hP
      have key : (∀ c' : Ct, ∀ s2 s3 : Sl, ∀ Q : Nat → List D → Prop, Q n ((enD xs).map fun x => .bl (namAt xs x)) → wLoop (gT 2 (gsCons (gN 3) (gsCons (gN 4) gsNil))) wYes (wAndV (wCall (cf_is_name K) (wCons (wVar 4) wNil)) (wOp notInW (wVar 4) (wSl slW (wVar 0) oNone (oSome (wVar 3))))) c' [Sl.v d, s2, s3, .un, .un] (enD xs) n Q) := by
        intro c' s2 s3 Q hQ
        refine loop_map (fun x => .bl (namAt xs x)) _ _ (fun x hm R hR => ?_) hQ
        obtain ⟨i, hi, rfl⟩ := List.mem_mapIdx.mp hm
        simp only [cf_is_name, Dt.wSeq, Dt.wIfS, Dt.wRet, Dt.wSet, Dt.wOwn, Dt.wAsg, Dt.wPar2, Dt.wPar3, Dt.xV, Dt.xO, Dt.wVar, Dt.wC, Dt.wCB, Dt.wCons, Dt.wNil, Dt.wOp, Dt.wTru, Dt.wB, Dt.wNot, Dt.wAnd, Dt.wOr, Dt.wV, Dt.wAndV, Dt.wOrV, Dt.wNotV, Dt.wIf, Dt.wCall, Dt.wLst, Dt.wTup, Dt.wLc, Dt.wForS, Dt.wItems, Dt.wEn, Dt.wZi, Dt.wRg1, Dt.wRg2, Dt.wSl, Dt.oNone, Dt.oSome, Dt.wJoin, Dt.wSplit, Dt.wDisp, Dt.psCons, Dt.psNil, Dt.wBor, Dt.wBorT, Dt.wBorF, Dt.wDrop, Dt.wNeg, Dt.wInt, Dt.wCh, Dt.wStar, Dt.wStA, Dt.gU, Dt.wRev, Dt.wProp, Dt.wFld, Dt.wRaise0, Dt.wRaise1, Dt.wApp, Dt.wSetI, Dt.wPutI, Dt.ownL, Dt.ownM, Dt.wCallD, Dt.wCallK, Dt.mPre, Dt.mSto, Dt.mNil, Dt.asB, Dt.asI, Dt.asS, Dt.asK, Dt.asL, Dt.truW, Dt.addW, Dt.addF, Dt.subW, Dt.iiW, Dt.ciW, Dt.ltW, Dt.leW, Dt.gtW, Dt.geW, Dt.mulW, Dt.fdivW, Dt.modW, Dt.iltW, Dt.iltW.iiB, Dt.ileW, Dt.ixW, Dt.slW, Dt.slF, Dt.lenW, Dt.intW, Dt.absW, Dt.ii2, Dt.listW, Dt.tupleW, Dt.dictW, Dt.inW, Dt.notInW, Dt.isNW, Dt.isNotNW, Dt.isN, Dt.lenOW, Dt.eqW_ii, Dt.neW_ii, Dt.eqW_bb, Dt.eqW_ss, Dt.neW_ss, Dt.isK_non_bool, Dt.isK_non_int, Dt.isK_non_str, Dt.isK_non_list, Dt.isK_non_tuple, Dt.isK_non_dict, Dt.isK_bl_bool, Dt.isK_bl_int, Dt.isK_bl_str, Dt.isK_bl_list, Dt.isK_bl_tuple, Dt.isK_bl_dict, Dt.isK_int_bool, Dt.isK_int_int, Dt.isK_int_str, Dt.isK_int_list, Dt.isK_int_tuple, Dt.isK_int_dict, Dt.isK_str_bool, Dt.isK_str_int, Dt.isK_str_str, Dt.isK_str_list, Dt.isK_str_tuple, Dt.isK_str_dict, Dt.isK_lst_bool, Dt.isK_lst_int, Dt.isK_lst_str, Dt.isK_lst_list, Dt.isK_lst_tuple, Dt.isK_lst_dict, Dt.isK_tup_bool, Dt.isK_tup_int, Dt.isK_tup_str, Dt.isK_tup_list, Dt.isK_tup_tuple, Dt.isK_tup_dict, Dt.isK_dct_bool, Dt.isK_dct_int, Dt.isK_dct_str, Dt.isK_dct_list, Dt.isK_dct_tuple, Dt.isK_dct_dict, Dt.isK_ins_bool, Dt.isK_ins_int, Dt.isK_ins_str, Dt.isK_ins_list, Dt.isK_ins_tuple, Dt.isK_ins_dict, Dt.gN, Dt.gT, Dt.gsCons, Dt.gsNil, Dt.δ0, Dt.frz, Dt.wipeD, Dt.keyD, Dt.De0, List.map_cons, List.map_nil, List.length_cons, List.length_nil, List.replicate_succ, List.replicate_zero, List.cons_append, List.nil_append, List.getElem?_cons_zero, List.getElem?_cons_succ, List.set_cons_zero, List.set_cons_succ, Nat.reduceSub, Nat.reduceAdd, Nat.zero_add, reduceIte, Bool.not_true, Bool.not_false, Bool.false_eq_true, Bool.not_eq_true, Bool.true_eq_false, true_and, and_true, ne_eq, decide_eq_true_eq, Bool.not_eq_eq_eq_not, decide_eq_false_iff_not, Option.isSome_some, Option.isSome_none, Bool.or_eq_true, Bool.and_eq_true]
        refine ⟨h2 _ (List.getElem_mem hi), ?_⟩
        have e : namAt xs (.tup [.int (i : Nat), xs[i]]) = (isNm xs[i] && !anyEq xs[i] (xs.take i)) := by simp [namAt]
        rw [e] at hR
        cases z : isNm xs[i] with
        | false =>
          rw [z] at hR
          exact hR
        | true =>
          rw [z] at hR
          rcases seqD_of q with rfl | rfl
          all_goals
            simp only [Dt.wSeq, Dt.wIfS, Dt.wRet, Dt.wSet, Dt.wOwn, Dt.wAsg, Dt.wPar2, Dt.wPar3, Dt.xV, Dt.xO, Dt.wVar, Dt.wC, Dt.wCB, Dt.wCons, Dt.wNil, Dt.wOp, Dt.wTru, Dt.wB, Dt.wNot, Dt.wAnd, Dt.wOr, Dt.wV, Dt.wAndV, Dt.wOrV, Dt.wNotV, Dt.wIf, Dt.wCall, Dt.wLst, Dt.wTup, Dt.wLc, Dt.wForS, Dt.wItems, Dt.wEn, Dt.wZi, Dt.wRg1, Dt.wRg2, Dt.wSl, Dt.oNone, Dt.oSome, Dt.wJoin, Dt.wSplit, Dt.wDisp, Dt.psCons, Dt.psNil, Dt.wBor, Dt.wBorT, Dt.wBorF, Dt.wDrop, Dt.wNeg, Dt.wInt, Dt.wCh, Dt.wStar, Dt.wStA, Dt.gU, Dt.wRev, Dt.wProp, Dt.wFld, Dt.wRaise0, Dt.wRaise1, Dt.wApp, Dt.wSetI, Dt.wPutI, Dt.ownL, Dt.ownM, Dt.wCallD, Dt.wCallK, Dt.mPre, Dt.mSto, Dt.mNil, Dt.asB, Dt.asI, Dt.asS, Dt.asK, Dt.asL, Dt.truW, Dt.addW, Dt.addF, Dt.subW, Dt.iiW, Dt.ciW, Dt.ltW, Dt.leW, Dt.gtW, Dt.geW, Dt.mulW, Dt.fdivW, Dt.modW, Dt.iltW, Dt.iltW.iiB, Dt.ileW, Dt.ixW, Dt.slW, Dt.slF, Dt.lenW, Dt.intW, Dt.absW, Dt.ii2, Dt.listW, Dt.tupleW, Dt.dictW, Dt.inW, Dt.notInW, Dt.isNW, Dt.isNotNW, Dt.isN, Dt.lenOW, Dt.eqW_ii, Dt.neW_ii, Dt.eqW_bb, Dt.eqW_ss, Dt.neW_ss, Dt.isK_non_bool, Dt.isK_non_int, Dt.isK_non_str, Dt.isK_non_list, Dt.isK_non_tuple, Dt.isK_non_dict, Dt.isK_bl_bool, Dt.isK_bl_int, Dt.isK_bl_str, Dt.isK_bl_list, Dt.isK_bl_tuple, Dt.isK_bl_dict, Dt.isK_int_bool, Dt.isK_int_int, Dt.isK_int_str, Dt.isK_int_list, Dt.isK_int_tuple, Dt.isK_int_dict, Dt.isK_str_bool, Dt.isK_str_int, Dt.isK_str_str, Dt.isK_str_list, Dt.isK_str_tuple, Dt.isK_str_dict, Dt.isK_lst_bool, Dt.isK_lst_int, Dt.isK_lst_str, Dt.isK_lst_list, Dt.isK_lst_tuple, Dt.isK_lst_dict, Dt.isK_tup_bool, Dt.isK_tup_int, Dt.isK_tup_str, Dt.isK_tup_list, Dt.isK_tup_tuple, Dt.isK_tup_dict, Dt.isK_dct_bool, Dt.isK_dct_int, Dt.isK_dct_str, Dt.isK_dct_list, Dt.isK_dct_tuple, Dt.isK_dct_dict, Dt.isK_ins_bool, Dt.isK_ins_int, Dt.isK_ins_str, Dt.isK_ins_list, Dt.isK_ins_tuple, Dt.isK_ins_dict, Dt.gN, Dt.gT, Dt.gsCons, Dt.gsNil, Dt.δ0, Dt.frz, Dt.wipeD, Dt.keyD, Dt.De0, List.map_cons, List.map_nil, List.length_cons, List.length_nil, List.replicate_succ, List.replicate_zero, List.cons_append, List.nil_append, List.getElem?_cons_zero, List.getElem?_cons_succ, List.set_cons_zero, List.set_cons_succ, Nat.reduceSub, Nat.reduceAdd, Nat.zero_add, reduceIte, Bool.not_true, Bool.not_false, Bool.false_eq_true, Bool.not_eq_true, Bool.true_eq_false, true_and, and_true, ne_eq, decide_eq_true_eq, Bool.not_eq_eq_eq_not, decide_eq_false_iff_not, Option.isSome_some, Option.isSome_none, Bool.or_eq_true, Bool.and_eq_true, cut_take]
            refine ⟨⟨60, by decide, depL_mem.mp h3 _ (List.getElem_mem hi), depL_mem.mpr fun y hy => depL_mem.mp h3 y (List.mem_of_mem_take hy)⟩, ?_⟩
            exact hR
      have fin : (enD xs).all (namAt xs) = (xs.all isNm && decide (strsD xs).Nodup) := by
        have := names_all xs []
        simpa [enD, strsD] using this
      simp only at hP
      rcases seqD_of q with rfl | rfl
      all_goals
        simp only [Dt.wSeq, Dt.wIfS, Dt.wRet, Dt.wSet, Dt.wOwn, Dt.wAsg, Dt.wPar2, Dt.wPar3, Dt.xV, Dt.xO, Dt.wVar, Dt.wC, Dt.wCB, Dt.wCons, Dt.wNil, Dt.wOp, Dt.wTru, Dt.wB, Dt.wNot, Dt.wAnd, Dt.wOr, Dt.wV, Dt.wAndV, Dt.wOrV, Dt.wNotV, Dt.wIf, Dt.wCall, Dt.wLst, Dt.wTup, Dt.wLc, Dt.wForS, Dt.wItems, Dt.wEn, Dt.wZi, Dt.wRg1, Dt.wRg2, Dt.wSl, Dt.oNone, Dt.oSome, Dt.wJoin, Dt.wSplit, Dt.wDisp, Dt.psCons, Dt.psNil, Dt.wBor, Dt.wBorT, Dt.wBorF, Dt.wDrop, Dt.wNeg, Dt.wInt, Dt.wCh, Dt.wStar, Dt.wStA, Dt.gU, Dt.wRev, Dt.wProp, Dt.wFld, Dt.wRaise0, Dt.wRaise1, Dt.wApp, Dt.wSetI, Dt.wPutI, Dt.ownL, Dt.ownM, Dt.wCallD, Dt.wCallK, Dt.mPre, Dt.mSto, Dt.mNil, Dt.asB, Dt.asI, Dt.asS, Dt.asK, Dt.asL, Dt.truW, Dt.addW, Dt.addF, Dt.subW, Dt.iiW, Dt.ciW, Dt.ltW, Dt.leW, Dt.gtW, Dt.geW, Dt.mulW, Dt.fdivW, Dt.modW, Dt.iltW, Dt.iltW.iiB, Dt.ileW, Dt.ixW, Dt.slW, Dt.slF, Dt.lenW, Dt.intW, Dt.absW, Dt.ii2, Dt.listW, Dt.tupleW, Dt.dictW, Dt.inW, Dt.notInW, Dt.isNW, Dt.isNotNW, Dt.isN, Dt.lenOW, Dt.eqW_ii, Dt.neW_ii, Dt.eqW_bb, Dt.eqW_ss, Dt.neW_ss, Dt.isK_non_bool, Dt.isK_non_int, Dt.isK_non_str, Dt.isK_non_list, Dt.isK_non_tuple, Dt.isK_non_dict, Dt.isK_bl_bool, Dt.isK_bl_int, Dt.isK_bl_str, Dt.isK_bl_list, Dt.isK_bl_tuple, Dt.isK_bl_dict, Dt.isK_int_bool, Dt.isK_int_int, Dt.isK_int_str, Dt.isK_int_list, Dt.isK_int_tuple, Dt.isK_int_dict, Dt.isK_str_bool, Dt.isK_str_int, Dt.isK_str_str, Dt.isK_str_list, Dt.isK_str_tuple, Dt.isK_str_dict, Dt.isK_lst_bool, Dt.isK_lst_int, Dt.isK_lst_str, Dt.isK_lst_list, Dt.isK_lst_tuple, Dt.isK_lst_dict, Dt.isK_tup_bool, Dt.isK_tup_int, Dt.isK_tup_str, Dt.isK_tup_list, Dt.isK_tup_tuple, Dt.isK_tup_dict, Dt.isK_dct_bool, Dt.isK_dct_int, Dt.isK_dct_str, Dt.isK_dct_list, Dt.isK_dct_tuple, Dt.isK_dct_dict, Dt.isK_ins_bool, Dt.isK_ins_int, Dt.isK_ins_str, Dt.isK_ins_list, Dt.isK_ins_tuple, Dt.isK_ins_dict, Dt.gN, Dt.gT, Dt.gsCons, Dt.gsNil, Dt.δ0, Dt.frz, Dt.wipeD, Dt.keyD, Dt.De0, List.map_cons, List.map_nil, List.length_cons, List.length_nil, List.replicate_succ, List.replicate_zero, List.cons_append, List.nil_append, List.getElem?_cons_zero, List.getElem?_cons_succ, List.set_cons_zero, List.set_cons_succ, Nat.reduceSub, Nat.reduceAdd, Nat.zero_add, reduceIte, Bool.not_true, Bool.not_false, Bool.false_eq_true, Bool.not_eq_true, Bool.true_eq_false, true_and, and_true, ne_eq, decide_eq_true_eq, Bool.not_eq_eq_eq_not, decide_eq_false_iff_not, Option.isSome_some, Option.isSome_none, Bool.or_eq_true, Bool.and_eq_true]
        split
        · rename_i l1
          split
          · rename_i l2
            rw [decide_eq_false (fun z => l2 z.2), Bool.false_and] at hP
            exact hP
          · rename_i l2
            refine ⟨_, xs, rfl, rfl, by rw [sizeLine_eq]; simp [enD]; omega, key _ _ _ _ ?_⟩
            refine all_map _ _ _ ?_
            rw [decide_eq_true ⟨l1, by omega⟩, Bool.true_and] at hP
            rw [fin]
            exact hP
        · rename_i l1
          rw [decide_eq_false (fun z => l1 z.1), Bool.false_and] at hP
          exact hP
def w_is_one_of (K : PySem.W.Frag) : WS := (wRet (wAndV (wCB (isiXW K) (wCons (wVar 0) (wCons (wC (.obj (.ty "str"))) wNil))) (wOp inW (wVar 0) (wVar 1))))
-- slots of is_one_of: 0 value, 1 names
/-- a list or tuple of texts -/
def strS (d : D) (ns : List Str) : Prop := seqD d = some (ns.map .str) ∧ ∀ s ∈ ns, PyData.strOk s = true
def oneOf (d : D) (ns : List Str) : Bool := match d with
  | .str s => decide (s ∈ ns)
  | _ => false
def cf_is_one_of (K : PySem.W.Frag) : Con := fun c n ds P => match ds with
  | [d, e] => AV1 K d ∧ ∃ ns, strS e ns ∧ P n (.bl (oneOf d ns))
  | _ => False
theorem pl_is_one_of {K : PySem.W.Frag} (c : Ct) (n : Nat) (ds : List D) (P : Nat → D → Prop) (h : cf_is_one_of K c n ds P) : w_is_one_of K c (De0 P) n (δ0 ["value", "names"] ds) := by
  match ds, h with
  | [d, e], ⟨hd, ns, he, hP⟩ =>
    simp only [w_is_one_of, Dt.wSeq, Dt.wIfS, Dt.wRet, Dt.wSet, Dt.wOwn, Dt.wAsg, Dt.wPar2, Dt.wPar3, Dt.xV, Dt.xO, Dt.wVar, Dt.wC, Dt.wCB, Dt.wCons, Dt.wNil, Dt.wOp, Dt.wTru, Dt.wB, Dt.wNot, Dt.wAnd, Dt.wOr, Dt.wV, Dt.wAndV, Dt.wOrV, Dt.wNotV, Dt.wIf, Dt.wCall, Dt.wLst, Dt.wTup, Dt.wLc, Dt.wForS, Dt.wItems, Dt.wEn, Dt.wZi, Dt.wRg1, Dt.wRg2, Dt.wSl, Dt.oNone, Dt.oSome, Dt.wJoin, Dt.wSplit, Dt.wDisp, Dt.psCons, Dt.psNil, Dt.wBor, Dt.wBorT, Dt.wBorF, Dt.wDrop, Dt.wNeg, Dt.wInt, Dt.wCh, Dt.wStar, Dt.wStA, Dt.gU, Dt.wRev, Dt.wProp, Dt.wFld, Dt.wRaise0, Dt.wRaise1, Dt.wApp, Dt.wSetI, Dt.wPutI, Dt.ownL, Dt.ownM, Dt.wCallD, Dt.wCallK, Dt.mPre, Dt.mSto, Dt.mNil, Dt.asB, Dt.asI, Dt.asS, Dt.asK, Dt.asL, Dt.truW, Dt.addW, Dt.addF, Dt.subW, Dt.iiW, Dt.ciW, Dt.ltW, Dt.leW, Dt.gtW, Dt.geW, Dt.mulW, Dt.fdivW, Dt.modW, Dt.iltW, Dt.iltW.iiB, Dt.ileW, Dt.ixW, Dt.slW, Dt.slF, Dt.lenW, Dt.intW, Dt.absW, Dt.ii2, Dt.listW, Dt.tupleW, Dt.dictW, Dt.inW, Dt.notInW, Dt.isNW, Dt.isNotNW, Dt.isN, Dt.lenOW, Dt.eqW_ii, Dt.neW_ii, Dt.eqW_bb, Dt.eqW_ss, Dt.neW_ss, Dt.isK_non_bool, Dt.isK_non_int, Dt.isK_non_str, Dt.isK_non_list, Dt.isK_non_tuple, Dt.isK_non_dict, Dt.isK_bl_bool, Dt.isK_bl_int, Dt.isK_bl_str, Dt.isK_bl_list, Dt.isK_bl_tuple, Dt.isK_bl_dict, Dt.isK_int_bool, Dt.isK_int_int, Dt.isK_int_str, Dt.isK_int_list, Dt.isK_int_tuple, Dt.isK_int_dict, Dt.isK_str_bool, Dt.isK_str_int, Dt.isK_str_str, Dt.isK_str_list, Dt.isK_str_tuple, Dt.isK_str_dict, Dt.isK_lst_bool, Dt.isK_lst_int, Dt.isK_lst_str, Dt.isK_lst_list, Dt.isK_lst_tuple, Dt.isK_lst_dict, Dt.isK_tup_bool, Dt.isK_tup_int, Dt.isK_tup_str, Dt.isK_tup_list, Dt.isK_tup_tuple, Dt.isK_tup_dict, Dt.isK_dct_bool, Dt.isK_dct_int, Dt.isK_dct_str, Dt.isK_dct_list, Dt.isK_dct_tuple, Dt.isK_dct_dict, Dt.isK_ins_bool, Dt.isK_ins_int, Dt.isK_ins_str, Dt.isK_ins_list, Dt.isK_ins_tuple, Dt.isK_ins_dict, Dt.gN, Dt.gT, Dt.gsCons, Dt.gsNil, Dt.δ0, Dt.frz, Dt.wipeD, Dt.keyD, Dt.De0, List.map_cons, List.map_nil, List.length_cons, List.length_nil, List.replicate_succ, List.replicate_zero, List.cons_append, List.nil_append, List.getElem?_cons_zero, List.getElem?_cons_succ, List.set_cons_zero, List.set_cons_succ, Nat.reduceSub, Nat.reduceAdd, Nat.zero_add, reduceIte, Bool.not_true, Bool.not_false, Bool.false_eq_true, Bool.not_eq_true, Bool.true_eq_false, true_and, and_true, ne_eq, decide_eq_true_eq, Bool.not_eq_eq_eq_not, decide_eq_false_iff_not, Option.isSome_some, Option.isSome_none, Bool.or_eq_true, Bool.and_eq_true]
    refine isi_k hd (by decide) ?_
    cases d with
    | str s => exact in_strs (n := 0) (P := fun b => P n (.bl b)) he.1 hd.1 he.2 hP
    | _ => exact hP
def w_is_plain (K : PySem.W.Frag) : WS := (wSeq (wIfS (wOr (wNot (wTru (wCB (isiXW K) (wCons (wVar 1) (wCons (wC (.obj (.ty "tuple"))) wNil))))) (wB (wOp neW (wCB lenW (wCons (wVar 1) wNil)) (wC (.int 3))))) (wRet (wC (.bl false))) (fun _ De n δ => De.nx n δ)) (wSeq (wAsg (wVar 1) (gU 3 (gsCons (gN 2) (gsCons (gN 3) (gsCons (gN 4) gsNil))))) (wSeq (wIfS (wOr (wNot (wTru (wCall (cf_is_one_of K) (wCons (wVar 2) (wCons (wVar 0) wNil))))) (wNot (wTru (wCall (cf_is_one_of K) (wCons (wVar 3) (wCons (wVar 0) wNil)))))) (wRet (wC (.bl false))) (fun _ De n δ => De.nx n δ)) (wRet (wAndV (wOp neW (wVar 2) (wVar 3)) (wCall (cf_is_one_of K) (wCons (wVar 4) (wCons (wC (.tup [(.str "less"), (.str "more"), (.str "none")])) wNil))))))))
-- slots of is_plain: 0 things, 1 value, 2 one, 3 other, 4 answer
def answersL : List Str := ["less", "more", "none"]
def isPl (ts : List Str) : D → Bool
  | .tup [a, b, c] => oneOf a ts && (oneOf b ts && (!isSame a b && oneOf c answersL))
  | _ => false
where isSame : D → D → Bool
  | .str a, .str b => decide (a = b)
  | _, _ => false
def cf_is_plain (K : PySem.W.Frag) : Con := fun c n ds P => match ds with
  | [t, d] => AV1 K d ∧ (∀ xs, d = .tup xs → ∀ x ∈ xs, AV1 K x) ∧ ∃ ts, strS t ts ∧ P n (.bl (isPl ts d))
  | _ => False
theorem ans_ok : strS (.tup [(.str "less"), (.str "more"), (.str "none")]) answersL := ⟨rfl, by decide +kernel⟩
theorem pl_is_plain {K : PySem.W.Frag} (c : Ct) (n : Nat) (ds : List D) (P : Nat → D → Prop) (h : cf_is_plain K c n ds P) : w_is_plain K c (De0 P) n (δ0 ["things", "value", "one", "other", "answer"] ds) := by
  match ds, h with
  | [t, d], ⟨hd, hx, ts, ht, hP⟩ =>
    simp only [w_is_plain, Dt.wSeq, Dt.wIfS, Dt.wRet, Dt.wSet, Dt.wOwn, Dt.wAsg, Dt.wPar2, Dt.wPar3, Dt.xV, Dt.xO, Dt.wVar, Dt.wC, Dt.wCB, Dt.wCons, Dt.wNil, Dt.wOp, Dt.wTru, Dt.wB, Dt.wNot, Dt.wAnd, Dt.wOr, Dt.wV, Dt.wAndV, Dt.wOrV, Dt.wNotV, Dt.wIf, Dt.wCall, Dt.wLst, Dt.wTup, Dt.wLc, Dt.wForS, Dt.wItems, Dt.wEn, Dt.wZi, Dt.wRg1, Dt.wRg2, Dt.wSl, Dt.oNone, Dt.oSome, Dt.wJoin, Dt.wSplit, Dt.wDisp, Dt.psCons, Dt.psNil, Dt.wBor, Dt.wBorT, Dt.wBorF, Dt.wDrop, Dt.wNeg, Dt.wInt, Dt.wCh, Dt.wStar, Dt.wStA, Dt.gU, Dt.wRev, Dt.wProp, Dt.wFld, Dt.wRaise0, Dt.wRaise1, Dt.wApp, Dt.wSetI, Dt.wPutI, Dt.ownL, Dt.ownM, Dt.wCallD, Dt.wCallK, Dt.mPre, Dt.mSto, Dt.mNil, Dt.asB, Dt.asI, Dt.asS, Dt.asK, Dt.asL, Dt.truW, Dt.addW, Dt.addF, Dt.subW, Dt.iiW, Dt.ciW, Dt.ltW, Dt.leW, Dt.gtW, Dt.geW, Dt.mulW, Dt.fdivW, Dt.modW, Dt.iltW, Dt.iltW.iiB, Dt.ileW, Dt.ixW, Dt.slW, Dt.slF, Dt.lenW, Dt.intW, Dt.absW, Dt.ii2, Dt.listW, Dt.tupleW, Dt.dictW, Dt.inW, Dt.notInW, Dt.isNW, Dt.isNotNW, Dt.isN, Dt.lenOW, Dt.eqW_ii, Dt.neW_ii, Dt.eqW_bb, Dt.eqW_ss, Dt.neW_ss, Dt.isK_non_bool, Dt.isK_non_int, Dt.isK_non_str, Dt.isK_non_list, Dt.isK_non_tuple, Dt.isK_non_dict, Dt.isK_bl_bool, Dt.isK_bl_int, Dt.isK_bl_str, Dt.isK_bl_list, Dt.isK_bl_tuple, Dt.isK_bl_dict, Dt.isK_int_bool, Dt.isK_int_int, Dt.isK_int_str, Dt.isK_int_list, Dt.isK_int_tuple, Dt.isK_int_dict, Dt.isK_str_bool, Dt.isK_str_int, Dt.isK_str_str, Dt.isK_str_list, Dt.isK_str_tuple, Dt.isK_str_dict, Dt.isK_lst_bool, Dt.isK_lst_int, Dt.isK_lst_str, Dt.isK_lst_list, Dt.isK_lst_tuple, Dt.isK_lst_dict, Dt.isK_tup_bool, Dt.isK_tup_int, Dt.isK_tup_str, Dt.isK_tup_list, Dt.isK_tup_tuple, Dt.isK_tup_dict, Dt.isK_dct_bool, Dt.isK_dct_int, Dt.isK_dct_str, Dt.isK_dct_list, Dt.isK_dct_tuple, Dt.isK_dct_dict, Dt.isK_ins_bool, Dt.isK_ins_int, Dt.isK_ins_str, Dt.isK_ins_list, Dt.isK_ins_tuple, Dt.isK_ins_dict, Dt.gN, Dt.gT, Dt.gsCons, Dt.gsNil, Dt.δ0, Dt.frz, Dt.wipeD, Dt.keyD, Dt.De0, List.map_cons, List.map_nil, List.length_cons, List.length_nil, List.replicate_succ, List.replicate_zero, List.cons_append, List.nil_append, List.getElem?_cons_zero, List.getElem?_cons_succ, List.set_cons_zero, List.set_cons_succ, Nat.reduceSub, Nat.reduceAdd, Nat.zero_add, reduceIte, Bool.not_true, Bool.not_false, Bool.false_eq_true, Bool.not_eq_true, Bool.true_eq_false, true_and, and_true, ne_eq, decide_eq_true_eq, Bool.not_eq_eq_eq_not, decide_eq_false_iff_not, Option.isSome_some, Option.isSome_none, Bool.or_eq_true, Bool.and_eq_true]
    refine isi_k hd (by decide) ?_
    cases d with
    | tup xs =>
      have hx := hx xs rfl
      simp only [Dt.wSeq, Dt.wIfS, Dt.wRet, Dt.wSet, Dt.wOwn, Dt.wAsg, Dt.wPar2, Dt.wPar3, Dt.xV, Dt.xO, Dt.wVar, Dt.wC, Dt.wCB, Dt.wCons, Dt.wNil, Dt.wOp, Dt.wTru, Dt.wB, Dt.wNot, Dt.wAnd, Dt.wOr, Dt.wV, Dt.wAndV, Dt.wOrV, Dt.wNotV, Dt.wIf, Dt.wCall, Dt.wLst, Dt.wTup, Dt.wLc, Dt.wForS, Dt.wItems, Dt.wEn, Dt.wZi, Dt.wRg1, Dt.wRg2, Dt.wSl, Dt.oNone, Dt.oSome, Dt.wJoin, Dt.wSplit, Dt.wDisp, Dt.psCons, Dt.psNil, Dt.wBor, Dt.wBorT, Dt.wBorF, Dt.wDrop, Dt.wNeg, Dt.wInt, Dt.wCh, Dt.wStar, Dt.wStA, Dt.gU, Dt.wRev, Dt.wProp, Dt.wFld, Dt.wRaise0, Dt.wRaise1, Dt.wApp, Dt.wSetI, Dt.wPutI, Dt.ownL, Dt.ownM, Dt.wCallD, Dt.wCallK, Dt.mPre, Dt.mSto, Dt.mNil, Dt.asB, Dt.asI, Dt.asS, Dt.asK, Dt.asL, Dt.truW, Dt.addW, Dt.addF, Dt.subW, Dt.iiW, Dt.ciW, Dt.ltW, Dt.leW, Dt.gtW, Dt.geW, Dt.mulW, Dt.fdivW, Dt.modW, Dt.iltW, Dt.iltW.iiB, Dt.ileW, Dt.ixW, Dt.slW, Dt.slF, Dt.lenW, Dt.intW, Dt.absW, Dt.ii2, Dt.listW, Dt.tupleW, Dt.dictW, Dt.inW, Dt.notInW, Dt.isNW, Dt.isNotNW, Dt.isN, Dt.lenOW, Dt.eqW_ii, Dt.neW_ii, Dt.eqW_bb, Dt.eqW_ss, Dt.neW_ss, Dt.isK_non_bool, Dt.isK_non_int, Dt.isK_non_str, Dt.isK_non_list, Dt.isK_non_tuple, Dt.isK_non_dict, Dt.isK_bl_bool, Dt.isK_bl_int, Dt.isK_bl_str, Dt.isK_bl_list, Dt.isK_bl_tuple, Dt.isK_bl_dict, Dt.isK_int_bool, Dt.isK_int_int, Dt.isK_int_str, Dt.isK_int_list, Dt.isK_int_tuple, Dt.isK_int_dict, Dt.isK_str_bool, Dt.isK_str_int, Dt.isK_str_str, Dt.isK_str_list, Dt.isK_str_tuple, Dt.isK_str_dict, Dt.isK_lst_bool, Dt.isK_lst_int, Dt.isK_lst_str, Dt.isK_lst_list, Dt.isK_lst_tuple, Dt.isK_lst_dict, Dt.isK_tup_bool, Dt.isK_tup_int, Dt.isK_tup_str, Dt.isK_tup_list, Dt.isK_tup_tuple, Dt.isK_tup_dict, Dt.isK_dct_bool, Dt.isK_dct_int, Dt.isK_dct_str, Dt.isK_dct_list, Dt.isK_dct_tuple, Dt.isK_dct_dict, Dt.isK_ins_bool, Dt.isK_ins_int, Dt.isK_ins_str, Dt.isK_ins_list, Dt.isK_ins_tuple, Dt.isK_ins_dict, Dt.gN, Dt.gT, Dt.gsCons, Dt.gsNil, Dt.δ0, Dt.frz, Dt.wipeD, Dt.keyD, Dt.De0, List.map_cons, List.map_nil, List.length_cons, List.length_nil, List.replicate_succ, List.replicate_zero, List.cons_append, List.nil_append, List.getElem?_cons_zero, List.getElem?_cons_succ, List.set_cons_zero, List.set_cons_succ, Nat.reduceSub, Nat.reduceAdd, Nat.zero_add, reduceIte, Bool.not_true, Bool.not_false, Bool.false_eq_true, Bool.not_eq_true, Bool.true_eq_false, true_and, and_true, ne_eq, decide_eq_true_eq, Bool.not_eq_eq_eq_not, decide_eq_false_iff_not, Option.isSome_some, Option.isSome_none, Bool.or_eq_true, Bool.and_eq_true]
      match xs, hx, hP with
      | [a, b, e], hx, hP =>
        have ha := hx a (by simp)
        have hb := hx b (by simp)
        have he := hx e (by simp)
        simp only [Dt.wSeq, Dt.wIfS, Dt.wRet, Dt.wSet, Dt.wOwn, Dt.wAsg, Dt.wPar2, Dt.wPar3, Dt.xV, Dt.xO, Dt.wVar, Dt.wC, Dt.wCB, Dt.wCons, Dt.wNil, Dt.wOp, Dt.wTru, Dt.wB, Dt.wNot, Dt.wAnd, Dt.wOr, Dt.wV, Dt.wAndV, Dt.wOrV, Dt.wNotV, Dt.wIf, Dt.wCall, Dt.wLst, Dt.wTup, Dt.wLc, Dt.wForS, Dt.wItems, Dt.wEn, Dt.wZi, Dt.wRg1, Dt.wRg2, Dt.wSl, Dt.oNone, Dt.oSome, Dt.wJoin, Dt.wSplit, Dt.wDisp, Dt.psCons, Dt.psNil, Dt.wBor, Dt.wBorT, Dt.wBorF, Dt.wDrop, Dt.wNeg, Dt.wInt, Dt.wCh, Dt.wStar, Dt.wStA, Dt.gU, Dt.wRev, Dt.wProp, Dt.wFld, Dt.wRaise0, Dt.wRaise1, Dt.wApp, Dt.wSetI, Dt.wPutI, Dt.ownL, Dt.ownM, Dt.wCallD, Dt.wCallK, Dt.mPre, Dt.mSto, Dt.mNil, Dt.asB, Dt.asI, Dt.asS, Dt.asK, Dt.asL, Dt.truW, Dt.addW, Dt.addF, Dt.subW, Dt.iiW, Dt.ciW, Dt.ltW, Dt.leW, Dt.gtW, Dt.geW, Dt.mulW, Dt.fdivW, Dt.modW, Dt.iltW, Dt.iltW.iiB, Dt.ileW, Dt.ixW, Dt.slW, Dt.slF, Dt.lenW, Dt.intW, Dt.absW, Dt.ii2, Dt.listW, Dt.tupleW, Dt.dictW, Dt.inW, Dt.notInW, Dt.isNW, Dt.isNotNW, Dt.isN, Dt.lenOW, Dt.eqW_ii, Dt.neW_ii, Dt.eqW_bb, Dt.eqW_ss, Dt.neW_ss, Dt.isK_non_bool, Dt.isK_non_int, Dt.isK_non_str, Dt.isK_non_list, Dt.isK_non_tuple, Dt.isK_non_dict, Dt.isK_bl_bool, Dt.isK_bl_int, Dt.isK_bl_str, Dt.isK_bl_list, Dt.isK_bl_tuple, Dt.isK_bl_dict, Dt.isK_int_bool, Dt.isK_int_int, Dt.isK_int_str, Dt.isK_int_list, Dt.isK_int_tuple, Dt.isK_int_dict, Dt.isK_str_bool, Dt.isK_str_int, Dt.isK_str_str, Dt.isK_str_list, Dt.isK_str_tuple, Dt.isK_str_dict, Dt.isK_lst_bool, Dt.isK_lst_int, Dt.isK_lst_str, Dt.isK_lst_list, Dt.isK_lst_tuple, Dt.isK_lst_dict, Dt.isK_tup_bool, Dt.isK_tup_int, Dt.isK_tup_str, Dt.isK_tup_list, Dt.isK_tup_tuple, Dt.isK_tup_dict, Dt.isK_dct_bool, Dt.isK_dct_int, Dt.isK_dct_str, Dt.isK_dct_list, Dt.isK_dct_tuple, Dt.isK_dct_dict, Dt.isK_ins_bool, Dt.isK_ins_int, Dt.isK_ins_str, Dt.isK_ins_list, Dt.isK_ins_tuple, Dt.isK_ins_dict, Dt.gN, Dt.gT, Dt.gsCons, Dt.gsNil, Dt.δ0, Dt.frz, Dt.wipeD, Dt.keyD, Dt.De0, List.map_cons, List.map_nil, List.length_cons, List.length_nil, List.replicate_succ, List.replicate_zero, List.cons_append, List.nil_append, List.getElem?_cons_zero, List.getElem?_cons_succ, List.set_cons_zero, List.set_cons_succ, Nat.reduceSub, Nat.reduceAdd, Nat.zero_add, reduceIte, Bool.not_true, Bool.not_false, Bool.false_eq_true, Bool.not_eq_true, Bool.true_eq_false, true_and, and_true, ne_eq, decide_eq_true_eq, Bool.not_eq_eq_eq_not, decide_eq_false_iff_not, Option.isSome_some, Option.isSome_none, Bool.or_eq_true, Bool.and_eq_true]
        rw [if_neg (by decide)]
        refine ⟨ha, ts, ht, ?_⟩
        simp only [isPl] at hP
        cases za : oneOf a ts with
        | false =>
          rw [za] at hP
          exact hP
        | true =>
          refine ⟨hb, ts, ht, ?_⟩
          cases zb : oneOf b ts with
          | false =>
            rw [za, zb] at hP
            exact hP
          | true =>
            rw [za, zb] at hP
            cases a with
            | str a =>
              cases b with
              | str b =>
                simp only [Dt.wSeq, Dt.wIfS, Dt.wRet, Dt.wSet, Dt.wOwn, Dt.wAsg, Dt.wPar2, Dt.wPar3, Dt.xV, Dt.xO, Dt.wVar, Dt.wC, Dt.wCB, Dt.wCons, Dt.wNil, Dt.wOp, Dt.wTru, Dt.wB, Dt.wNot, Dt.wAnd, Dt.wOr, Dt.wV, Dt.wAndV, Dt.wOrV, Dt.wNotV, Dt.wIf, Dt.wCall, Dt.wLst, Dt.wTup, Dt.wLc, Dt.wForS, Dt.wItems, Dt.wEn, Dt.wZi, Dt.wRg1, Dt.wRg2, Dt.wSl, Dt.oNone, Dt.oSome, Dt.wJoin, Dt.wSplit, Dt.wDisp, Dt.psCons, Dt.psNil, Dt.wBor, Dt.wBorT, Dt.wBorF, Dt.wDrop, Dt.wNeg, Dt.wInt, Dt.wCh, Dt.wStar, Dt.wStA, Dt.gU, Dt.wRev, Dt.wProp, Dt.wFld, Dt.wRaise0, Dt.wRaise1, Dt.wApp, Dt.wSetI, Dt.wPutI, Dt.ownL, Dt.ownM, Dt.wCallD, Dt.wCallK, Dt.mPre, Dt.mSto, Dt.mNil, Dt.asB, Dt.asI, Dt.asS, Dt.asK, Dt.asL, Dt.truW, Dt.addW, Dt.addF, Dt.subW, Dt.iiW, Dt.ciW, Dt.ltW, Dt.leW, Dt.gtW, Dt.geW, Dt.mulW, Dt.fdivW, Dt.modW, Dt.iltW, Dt.iltW.iiB, Dt.ileW, Dt.ixW, Dt.slW, Dt.slF, Dt.lenW, Dt.intW, Dt.absW, Dt.ii2, Dt.listW, Dt.tupleW, Dt.dictW, Dt.inW, Dt.notInW, Dt.isNW, Dt.isNotNW, Dt.isN, Dt.lenOW, Dt.eqW_ii, Dt.neW_ii, Dt.eqW_bb, Dt.eqW_ss, Dt.neW_ss, Dt.isK_non_bool, Dt.isK_non_int, Dt.isK_non_str, Dt.isK_non_list, Dt.isK_non_tuple, Dt.isK_non_dict, Dt.isK_bl_bool, Dt.isK_bl_int, Dt.isK_bl_str, Dt.isK_bl_list, Dt.isK_bl_tuple, Dt.isK_bl_dict, Dt.isK_int_bool, Dt.isK_int_int, Dt.isK_int_str, Dt.isK_int_list, Dt.isK_int_tuple, Dt.isK_int_dict, Dt.isK_str_bool, Dt.isK_str_int, Dt.isK_str_str, Dt.isK_str_list, Dt.isK_str_tuple, Dt.isK_str_dict, Dt.isK_lst_bool, Dt.isK_lst_int, Dt.isK_lst_str, Dt.isK_lst_list, Dt.isK_lst_tuple, Dt.isK_lst_dict, Dt.isK_tup_bool, Dt.isK_tup_int, Dt.isK_tup_str, Dt.isK_tup_list, Dt.isK_tup_tuple, Dt.isK_tup_dict, Dt.isK_dct_bool, Dt.isK_dct_int, Dt.isK_dct_str, Dt.isK_dct_list, Dt.isK_dct_tuple, Dt.isK_dct_dict, Dt.isK_ins_bool, Dt.isK_ins_int, Dt.isK_ins_str, Dt.isK_ins_list, Dt.isK_ins_tuple, Dt.isK_ins_dict, Dt.gN, Dt.gT, Dt.gsCons, Dt.gsNil, Dt.δ0, Dt.frz, Dt.wipeD, Dt.keyD, Dt.De0, List.map_cons, List.map_nil, List.length_cons, List.length_nil, List.replicate_succ, List.replicate_zero, List.cons_append, List.nil_append, List.getElem?_cons_zero, List.getElem?_cons_succ, List.set_cons_zero, List.set_cons_succ, Nat.reduceSub, Nat.reduceAdd, Nat.zero_add, reduceIte, Bool.not_true, Bool.not_false, Bool.false_eq_true, Bool.not_eq_true, Bool.true_eq_false, true_and, and_true, ne_eq, decide_eq_true_eq, Bool.not_eq_eq_eq_not, decide_eq_false_iff_not, Option.isSome_some, Option.isSome_none, Bool.or_eq_true, Bool.and_eq_true]
                simp only [isPl.isSame] at hP
                by_cases q : a = b
                · rw [if_neg (fun z => z q)]
                  rw [decide_eq_true q] at hP
                  exact hP
                · rw [if_pos q]
                  rw [decide_eq_false q] at hP
                  exact ⟨he, answersL, ans_ok, hP⟩
              | _ => cases zb
            | _ => cases za
      | [], _, hP => exact hP
      | [_], _, hP => exact hP
      | [_, _], _, hP => exact hP
      | _ :: _ :: _ :: _ :: l, _, hP =>
        simp only [Dt.wSeq, Dt.wIfS, Dt.wRet, Dt.wSet, Dt.wOwn, Dt.wAsg, Dt.wPar2, Dt.wPar3, Dt.xV, Dt.xO, Dt.wVar, Dt.wC, Dt.wCB, Dt.wCons, Dt.wNil, Dt.wOp, Dt.wTru, Dt.wB, Dt.wNot, Dt.wAnd, Dt.wOr, Dt.wV, Dt.wAndV, Dt.wOrV, Dt.wNotV, Dt.wIf, Dt.wCall, Dt.wLst, Dt.wTup, Dt.wLc, Dt.wForS, Dt.wItems, Dt.wEn, Dt.wZi, Dt.wRg1, Dt.wRg2, Dt.wSl, Dt.oNone, Dt.oSome, Dt.wJoin, Dt.wSplit, Dt.wDisp, Dt.psCons, Dt.psNil, Dt.wBor, Dt.wBorT, Dt.wBorF, Dt.wDrop, Dt.wNeg, Dt.wInt, Dt.wCh, Dt.wStar, Dt.wStA, Dt.gU, Dt.wRev, Dt.wProp, Dt.wFld, Dt.wRaise0, Dt.wRaise1, Dt.wApp, Dt.wSetI, Dt.wPutI, Dt.ownL, Dt.ownM, Dt.wCallD, Dt.wCallK, Dt.mPre, Dt.mSto, Dt.mNil, Dt.asB, Dt.asI, Dt.asS, Dt.asK, Dt.asL, Dt.truW, Dt.addW, Dt.addF, Dt.subW, Dt.iiW, Dt.ciW, Dt.ltW, Dt.leW, Dt.gtW, Dt.geW, Dt.mulW, Dt.fdivW, Dt.modW, Dt.iltW, Dt.iltW.iiB, Dt.ileW, Dt.ixW, Dt.slW, Dt.slF, Dt.lenW, Dt.intW, Dt.absW, Dt.ii2, Dt.listW, Dt.tupleW, Dt.dictW, Dt.inW, Dt.notInW, Dt.isNW, Dt.isNotNW, Dt.isN, Dt.lenOW, Dt.eqW_ii, Dt.neW_ii, Dt.eqW_bb, Dt.eqW_ss, Dt.neW_ss, Dt.isK_non_bool, Dt.isK_non_int, Dt.isK_non_str, Dt.isK_non_list, Dt.isK_non_tuple, Dt.isK_non_dict, Dt.isK_bl_bool, Dt.isK_bl_int, Dt.isK_bl_str, Dt.isK_bl_list, Dt.isK_bl_tuple, Dt.isK_bl_dict, Dt.isK_int_bool, Dt.isK_int_int, Dt.isK_int_str, Dt.isK_int_list, Dt.isK_int_tuple, Dt.isK_int_dict, Dt.isK_str_bool, Dt.isK_str_int, Dt.isK_str_str, Dt.isK_str_list, Dt.isK_str_tuple, Dt.isK_str_dict, Dt.isK_lst_bool, Dt.isK_lst_int, Dt.isK_lst_str, Dt.isK_lst_list, Dt.isK_lst_tuple, Dt.isK_lst_dict, Dt.isK_tup_bool, Dt.isK_tup_int, Dt.isK_tup_str, Dt.isK_tup_list, Dt.isK_tup_tuple, Dt.isK_tup_dict, Dt.isK_dct_bool, Dt.isK_dct_int, Dt.isK_dct_str, Dt.isK_dct_list, Dt.isK_dct_tuple, Dt.isK_dct_dict, Dt.isK_ins_bool, Dt.isK_ins_int, Dt.isK_ins_str, Dt.isK_ins_list, Dt.isK_ins_tuple, Dt.isK_ins_dict, Dt.gN, Dt.gT, Dt.gsCons, Dt.gsNil, Dt.δ0, Dt.frz, Dt.wipeD, Dt.keyD, Dt.De0, List.map_cons, List.map_nil, List.length_cons, List.length_nil, List.replicate_succ, List.replicate_zero, List.cons_append, List.nil_append, List.getElem?_cons_zero, List.getElem?_cons_succ, List.set_cons_zero, List.set_cons_succ, Nat.reduceSub, Nat.reduceAdd, Nat.zero_add, reduceIte, Bool.not_true, Bool.not_false, Bool.false_eq_true, Bool.not_eq_true, Bool.true_eq_false, true_and, and_true, ne_eq, decide_eq_true_eq, Bool.not_eq_eq_eq_not, decide_eq_false_iff_not, Option.isSome_some, Option.isSome_none, Bool.or_eq_true, Bool.and_eq_true]
        rw [if_pos (by omega)]
        exact hP
    | _ => exact hP
def w_is_report (K : PySem.W.Frag) : WS := (wSeq (wIfS (wOr (wNot (wTru (wCB (isiXW K) (wCons (wVar 2) (wCons (wC (.obj (.ty "tuple"))) wNil))))) (wB (wOp neW (wCB lenW (wCons (wVar 2) wNil)) (wC (.int 4))))) (wRet (wC (.bl false))) (fun _ De n δ => De.nx n δ)) (wRet (wAndV (wCall (cf_is_one_of K) (wCons (wOp ixW (wVar 2) (wC (.int 0))) (wCons (wVar 0) wNil))) (wCall (cf_is_plain K) (wCons (wVar 1) (wCons (wSl slW (wVar 2) (oSome (wC (.int 1))) oNone) wNil))))))
-- slots of is_report: 0 observers, 1 things, 2 value
def isRp (os ts : List Str) : D → Bool
  | .tup [o, a, b, c] => oneOf o os && isPl ts (.tup [a, b, c])
  | _ => false
def cf_is_report (K : PySem.W.Frag) : Con := fun c n ds P => match ds with
  | [o, t, d] => AV1 K d ∧ (∀ xs, d = .tup xs → ∀ x ∈ xs, AV1 K x) ∧ ∃ os ts, strS o os ∧ strS t ts ∧ P n (.bl (isRp os ts d))
  | _ => False
theorem pl_is_report {K : PySem.W.Frag} (c : Ct) (n : Nat) (ds : List D) (P : Nat → D → Prop) (h : cf_is_report K c n ds P) : w_is_report K c (De0 P) n (δ0 ["observers", "things", "value"] ds) := by
  match ds, h with
  | [o, t, d], ⟨hd, hx, os, ts, ho, ht, hP⟩ =>
    simp only [w_is_report, Dt.wSeq, Dt.wIfS, Dt.wRet, Dt.wSet, Dt.wOwn, Dt.wAsg, Dt.wPar2, Dt.wPar3, Dt.xV, Dt.xO, Dt.wVar, Dt.wC, Dt.wCB, Dt.wCons, Dt.wNil, Dt.wOp, Dt.wTru, Dt.wB, Dt.wNot, Dt.wAnd, Dt.wOr, Dt.wV, Dt.wAndV, Dt.wOrV, Dt.wNotV, Dt.wIf, Dt.wCall, Dt.wLst, Dt.wTup, Dt.wLc, Dt.wForS, Dt.wItems, Dt.wEn, Dt.wZi, Dt.wRg1, Dt.wRg2, Dt.wSl, Dt.oNone, Dt.oSome, Dt.wJoin, Dt.wSplit, Dt.wDisp, Dt.psCons, Dt.psNil, Dt.wBor, Dt.wBorT, Dt.wBorF, Dt.wDrop, Dt.wNeg, Dt.wInt, Dt.wCh, Dt.wStar, Dt.wStA, Dt.gU, Dt.wRev, Dt.wProp, Dt.wFld, Dt.wRaise0, Dt.wRaise1, Dt.wApp, Dt.wSetI, Dt.wPutI, Dt.ownL, Dt.ownM, Dt.wCallD, Dt.wCallK, Dt.mPre, Dt.mSto, Dt.mNil, Dt.asB, Dt.asI, Dt.asS, Dt.asK, Dt.asL, Dt.truW, Dt.addW, Dt.addF, Dt.subW, Dt.iiW, Dt.ciW, Dt.ltW, Dt.leW, Dt.gtW, Dt.geW, Dt.mulW, Dt.fdivW, Dt.modW, Dt.iltW, Dt.iltW.iiB, Dt.ileW, Dt.ixW, Dt.slW, Dt.slF, Dt.lenW, Dt.intW, Dt.absW, Dt.ii2, Dt.listW, Dt.tupleW, Dt.dictW, Dt.inW, Dt.notInW, Dt.isNW, Dt.isNotNW, Dt.isN, Dt.lenOW, Dt.eqW_ii, Dt.neW_ii, Dt.eqW_bb, Dt.eqW_ss, Dt.neW_ss, Dt.isK_non_bool, Dt.isK_non_int, Dt.isK_non_str, Dt.isK_non_list, Dt.isK_non_tuple, Dt.isK_non_dict, Dt.isK_bl_bool, Dt.isK_bl_int, Dt.isK_bl_str, Dt.isK_bl_list, Dt.isK_bl_tuple, Dt.isK_bl_dict, Dt.isK_int_bool, Dt.isK_int_int, Dt.isK_int_str, Dt.isK_int_list, Dt.isK_int_tuple, Dt.isK_int_dict, Dt.isK_str_bool, Dt.isK_str_int, Dt.isK_str_str, Dt.isK_str_list, Dt.isK_str_tuple, Dt.isK_str_dict, Dt.isK_lst_bool, Dt.isK_lst_int, Dt.isK_lst_str, Dt.isK_lst_list, Dt.isK_lst_tuple, Dt.isK_lst_dict, Dt.isK_tup_bool, Dt.isK_tup_int, Dt.isK_tup_str, Dt.isK_tup_list, Dt.isK_tup_tuple, Dt.isK_tup_dict, Dt.isK_dct_bool, Dt.isK_dct_int, Dt.isK_dct_str, Dt.isK_dct_list, Dt.isK_dct_tuple, Dt.isK_dct_dict, Dt.isK_ins_bool, Dt.isK_ins_int, Dt.isK_ins_str, Dt.isK_ins_list, Dt.isK_ins_tuple, Dt.isK_ins_dict, Dt.gN, Dt.gT, Dt.gsCons, Dt.gsNil, Dt.δ0, Dt.frz, Dt.wipeD, Dt.keyD, Dt.De0, List.map_cons, List.map_nil, List.length_cons, List.length_nil, List.replicate_succ, List.replicate_zero, List.cons_append, List.nil_append, List.getElem?_cons_zero, List.getElem?_cons_succ, List.set_cons_zero, List.set_cons_succ, Nat.reduceSub, Nat.reduceAdd, Nat.zero_add, reduceIte, Bool.not_true, Bool.not_false, Bool.false_eq_true, Bool.not_eq_true, Bool.true_eq_false, true_and, and_true, ne_eq, decide_eq_true_eq, Bool.not_eq_eq_eq_not, decide_eq_false_iff_not, Option.isSome_some, Option.isSome_none, Bool.or_eq_true, Bool.and_eq_true]
    refine isi_k hd (by decide) ?_
    cases d with
    | tup xs =>
      have hx := hx xs rfl
      simp only [Dt.wSeq, Dt.wIfS, Dt.wRet, Dt.wSet, Dt.wOwn, Dt.wAsg, Dt.wPar2, Dt.wPar3, Dt.xV, Dt.xO, Dt.wVar, Dt.wC, Dt.wCB, Dt.wCons, Dt.wNil, Dt.wOp, Dt.wTru, Dt.wB, Dt.wNot, Dt.wAnd, Dt.wOr, Dt.wV, Dt.wAndV, Dt.wOrV, Dt.wNotV, Dt.wIf, Dt.wCall, Dt.wLst, Dt.wTup, Dt.wLc, Dt.wForS, Dt.wItems, Dt.wEn, Dt.wZi, Dt.wRg1, Dt.wRg2, Dt.wSl, Dt.oNone, Dt.oSome, Dt.wJoin, Dt.wSplit, Dt.wDisp, Dt.psCons, Dt.psNil, Dt.wBor, Dt.wBorT, Dt.wBorF, Dt.wDrop, Dt.wNeg, Dt.wInt, Dt.wCh, Dt.wStar, Dt.wStA, Dt.gU, Dt.wRev, Dt.wProp, Dt.wFld, Dt.wRaise0, Dt.wRaise1, Dt.wApp, Dt.wSetI, Dt.wPutI, Dt.ownL, Dt.ownM, Dt.wCallD, Dt.wCallK, Dt.mPre, Dt.mSto, Dt.mNil, Dt.asB, Dt.asI, Dt.asS, Dt.asK, Dt.asL, Dt.truW, Dt.addW, Dt.addF, Dt.subW, Dt.iiW, Dt.ciW, Dt.ltW, Dt.leW, Dt.gtW, Dt.geW, Dt.mulW, Dt.fdivW, Dt.modW, Dt.iltW, Dt.iltW.iiB, Dt.ileW, Dt.ixW, Dt.slW, Dt.slF, Dt.lenW, Dt.intW, Dt.absW, Dt.ii2, Dt.listW, Dt.tupleW, Dt.dictW, Dt.inW, Dt.notInW, Dt.isNW, Dt.isNotNW, Dt.isN, Dt.lenOW, Dt.eqW_ii, Dt.neW_ii, Dt.eqW_bb, Dt.eqW_ss, Dt.neW_ss, Dt.isK_non_bool, Dt.isK_non_int, Dt.isK_non_str, Dt.isK_non_list, Dt.isK_non_tuple, Dt.isK_non_dict, Dt.isK_bl_bool, Dt.isK_bl_int, Dt.isK_bl_str, Dt.isK_bl_list, Dt.isK_bl_tuple, Dt.isK_bl_dict, Dt.isK_int_bool, Dt.isK_int_int, Dt.isK_int_str, Dt.isK_int_list, Dt.isK_int_tuple, Dt.isK_int_dict, Dt.isK_str_bool, Dt.isK_str_int, Dt.isK_str_str, Dt.isK_str_list, Dt.isK_str_tuple, Dt.isK_str_dict, Dt.isK_lst_bool, Dt.isK_lst_int, Dt.isK_lst_str, Dt.isK_lst_list, Dt.isK_lst_tuple, Dt.isK_lst_dict, Dt.isK_tup_bool, Dt.isK_tup_int, Dt.isK_tup_str, Dt.isK_tup_list, Dt.isK_tup_tuple, Dt.isK_tup_dict, Dt.isK_dct_bool, Dt.isK_dct_int, Dt.isK_dct_str, Dt.isK_dct_list, Dt.isK_dct_tuple, Dt.isK_dct_dict, Dt.isK_ins_bool, Dt.isK_ins_int, Dt.isK_ins_str, Dt.isK_ins_list, Dt.isK_ins_tuple, Dt.isK_ins_dict, Dt.gN, Dt.gT, Dt.gsCons, Dt.gsNil, Dt.δ0, Dt.frz, Dt.wipeD, Dt.keyD, Dt.De0, List.map_cons, List.map_nil, List.length_cons, List.length_nil, List.replicate_succ, List.replicate_zero, List.cons_append, List.nil_append, List.getElem?_cons_zero, List.getElem?_cons_succ, List.set_cons_zero, List.set_cons_succ, Nat.reduceSub, Nat.reduceAdd, Nat.zero_add, reduceIte, Bool.not_true, Bool.not_false, Bool.false_eq_true, Bool.not_eq_true, Bool.true_eq_false, true_and, and_true, ne_eq, decide_eq_true_eq, Bool.not_eq_eq_eq_not, decide_eq_false_iff_not, Option.isSome_some, Option.isSome_none, Bool.or_eq_true, Bool.and_eq_true]
      match xs, hx, hP with
      | [x, a, b, e], hx, hP =>
        simp only [Dt.wSeq, Dt.wIfS, Dt.wRet, Dt.wSet, Dt.wOwn, Dt.wAsg, Dt.wPar2, Dt.wPar3, Dt.xV, Dt.xO, Dt.wVar, Dt.wC, Dt.wCB, Dt.wCons, Dt.wNil, Dt.wOp, Dt.wTru, Dt.wB, Dt.wNot, Dt.wAnd, Dt.wOr, Dt.wV, Dt.wAndV, Dt.wOrV, Dt.wNotV, Dt.wIf, Dt.wCall, Dt.wLst, Dt.wTup, Dt.wLc, Dt.wForS, Dt.wItems, Dt.wEn, Dt.wZi, Dt.wRg1, Dt.wRg2, Dt.wSl, Dt.oNone, Dt.oSome, Dt.wJoin, Dt.wSplit, Dt.wDisp, Dt.psCons, Dt.psNil, Dt.wBor, Dt.wBorT, Dt.wBorF, Dt.wDrop, Dt.wNeg, Dt.wInt, Dt.wCh, Dt.wStar, Dt.wStA, Dt.gU, Dt.wRev, Dt.wProp, Dt.wFld, Dt.wRaise0, Dt.wRaise1, Dt.wApp, Dt.wSetI, Dt.wPutI, Dt.ownL, Dt.ownM, Dt.wCallD, Dt.wCallK, Dt.mPre, Dt.mSto, Dt.mNil, Dt.asB, Dt.asI, Dt.asS, Dt.asK, Dt.asL, Dt.truW, Dt.addW, Dt.addF, Dt.subW, Dt.iiW, Dt.ciW, Dt.ltW, Dt.leW, Dt.gtW, Dt.geW, Dt.mulW, Dt.fdivW, Dt.modW, Dt.iltW, Dt.iltW.iiB, Dt.ileW, Dt.ixW, Dt.slW, Dt.slF, Dt.lenW, Dt.intW, Dt.absW, Dt.ii2, Dt.listW, Dt.tupleW, Dt.dictW, Dt.inW, Dt.notInW, Dt.isNW, Dt.isNotNW, Dt.isN, Dt.lenOW, Dt.eqW_ii, Dt.neW_ii, Dt.eqW_bb, Dt.eqW_ss, Dt.neW_ss, Dt.isK_non_bool, Dt.isK_non_int, Dt.isK_non_str, Dt.isK_non_list, Dt.isK_non_tuple, Dt.isK_non_dict, Dt.isK_bl_bool, Dt.isK_bl_int, Dt.isK_bl_str, Dt.isK_bl_list, Dt.isK_bl_tuple, Dt.isK_bl_dict, Dt.isK_int_bool, Dt.isK_int_int, Dt.isK_int_str, Dt.isK_int_list, Dt.isK_int_tuple, Dt.isK_int_dict, Dt.isK_str_bool, Dt.isK_str_int, Dt.isK_str_str, Dt.isK_str_list, Dt.isK_str_tuple, Dt.isK_str_dict, Dt.isK_lst_bool, Dt.isK_lst_int, Dt.isK_lst_str, Dt.isK_lst_list, Dt.isK_lst_tuple, Dt.isK_lst_dict, Dt.isK_tup_bool, Dt.isK_tup_int, Dt.isK_tup_str, Dt.isK_tup_list, Dt.isK_tup_tuple, Dt.isK_tup_dict, Dt.isK_dct_bool, Dt.isK_dct_int, Dt.isK_dct_str, Dt.isK_dct_list, Dt.isK_dct_tuple, Dt.isK_dct_dict, Dt.isK_ins_bool, Dt.isK_ins_int, Dt.isK_ins_str, Dt.isK_ins_list, Dt.isK_ins_tuple, Dt.isK_ins_dict, Dt.gN, Dt.gT, Dt.gsCons, Dt.gsNil, Dt.δ0, Dt.frz, Dt.wipeD, Dt.keyD, Dt.De0, List.map_cons, List.map_nil, List.length_cons, List.length_nil, List.replicate_succ, List.replicate_zero, List.cons_append, List.nil_append, List.getElem?_cons_zero, List.getElem?_cons_succ, List.set_cons_zero, List.set_cons_succ, Nat.reduceSub, Nat.reduceAdd, Nat.zero_add, reduceIte, Bool.not_true, Bool.not_false, Bool.false_eq_true, Bool.not_eq_true, Bool.true_eq_false, true_and, and_true, ne_eq, decide_eq_true_eq, Bool.not_eq_eq_eq_not, decide_eq_false_iff_not, Option.isSome_some, Option.isSome_none, Bool.or_eq_true, Bool.and_eq_true]
        rw [if_neg (by decide)]
        refine ⟨x, rfl, hx x (by simp), os, ho, ?_⟩
        simp only [isRp] at hP
        cases zx : oneOf x os with
        | false =>
          rw [zx] at hP
          exact hP
        | true =>
          rw [zx] at hP
          refine ⟨trivial, fun xs e2 y hy => hx y ?_, ts, ht, hP⟩
          cases e2
          exact .tail _ hy
      | [], _, hP => exact hP
      | [_], _, hP => exact hP
      | [_, _], _, hP => exact hP
      | [_, _, _], _, hP => exact hP
      | _ :: _ :: _ :: _ :: _ :: l, _, hP =>
        simp only [Dt.wSeq, Dt.wIfS, Dt.wRet, Dt.wSet, Dt.wOwn, Dt.wAsg, Dt.wPar2, Dt.wPar3, Dt.xV, Dt.xO, Dt.wVar, Dt.wC, Dt.wCB, Dt.wCons, Dt.wNil, Dt.wOp, Dt.wTru, Dt.wB, Dt.wNot, Dt.wAnd, Dt.wOr, Dt.wV, Dt.wAndV, Dt.wOrV, Dt.wNotV, Dt.wIf, Dt.wCall, Dt.wLst, Dt.wTup, Dt.wLc, Dt.wForS, Dt.wItems, Dt.wEn, Dt.wZi, Dt.wRg1, Dt.wRg2, Dt.wSl, Dt.oNone, Dt.oSome, Dt.wJoin, Dt.wSplit, Dt.wDisp, Dt.psCons, Dt.psNil, Dt.wBor, Dt.wBorT, Dt.wBorF, Dt.wDrop, Dt.wNeg, Dt.wInt, Dt.wCh, Dt.wStar, Dt.wStA, Dt.gU, Dt.wRev, Dt.wProp, Dt.wFld, Dt.wRaise0, Dt.wRaise1, Dt.wApp, Dt.wSetI, Dt.wPutI, Dt.ownL, Dt.ownM, Dt.wCallD, Dt.wCallK, Dt.mPre, Dt.mSto, Dt.mNil, Dt.asB, Dt.asI, Dt.asS, Dt.asK, Dt.asL, Dt.truW, Dt.addW, Dt.addF, Dt.subW, Dt.iiW, Dt.ciW, Dt.ltW, Dt.leW, Dt.gtW, Dt.geW, Dt.mulW, Dt.fdivW, Dt.modW, Dt.iltW, Dt.iltW.iiB, Dt.ileW, Dt.ixW, Dt.slW, Dt.slF, Dt.lenW, Dt.intW, Dt.absW, Dt.ii2, Dt.listW, Dt.tupleW, Dt.dictW, Dt.inW, Dt.notInW, Dt.isNW, Dt.isNotNW, Dt.isN, Dt.lenOW, Dt.eqW_ii, Dt.neW_ii, Dt.eqW_bb, Dt.eqW_ss, Dt.neW_ss, Dt.isK_non_bool, Dt.isK_non_int, Dt.isK_non_str, Dt.isK_non_list, Dt.isK_non_tuple, Dt.isK_non_dict, Dt.isK_bl_bool, Dt.isK_bl_int, Dt.isK_bl_str, Dt.isK_bl_list, Dt.isK_bl_tuple, Dt.isK_bl_dict, Dt.isK_int_bool, Dt.isK_int_int, Dt.isK_int_str, Dt.isK_int_list, Dt.isK_int_tuple, Dt.isK_int_dict, Dt.isK_str_bool, Dt.isK_str_int, Dt.isK_str_str, Dt.isK_str_list, Dt.isK_str_tuple, Dt.isK_str_dict, Dt.isK_lst_bool, Dt.isK_lst_int, Dt.isK_lst_str, Dt.isK_lst_list, Dt.isK_lst_tuple, Dt.isK_lst_dict, Dt.isK_tup_bool, Dt.isK_tup_int, Dt.isK_tup_str, Dt.isK_tup_list, Dt.isK_tup_tuple, Dt.isK_tup_dict, Dt.isK_dct_bool, Dt.isK_dct_int, Dt.isK_dct_str, Dt.isK_dct_list, Dt.isK_dct_tuple, Dt.isK_dct_dict, Dt.isK_ins_bool, Dt.isK_ins_int, Dt.isK_ins_str, Dt.isK_ins_list, Dt.isK_ins_tuple, Dt.isK_ins_dict, Dt.gN, Dt.gT, Dt.gsCons, Dt.gsNil, Dt.δ0, Dt.frz, Dt.wipeD, Dt.keyD, Dt.De0, List.map_cons, List.map_nil, List.length_cons, List.length_nil, List.replicate_succ, List.replicate_zero, List.cons_append, List.nil_append, List.getElem?_cons_zero, List.getElem?_cons_succ, List.set_cons_zero, List.set_cons_succ, Nat.reduceSub, Nat.reduceAdd, Nat.zero_add, reduceIte, Bool.not_true, Bool.not_false, Bool.false_eq_true, Bool.not_eq_true, Bool.true_eq_false, true_and, and_true, ne_eq, decide_eq_true_eq, Bool.not_eq_eq_eq_not, decide_eq_false_iff_not, Option.isSome_some, Option.isSome_none, Bool.or_eq_true, Bool.and_eq_true]
        rw [if_pos (by omega)]
        exact hP
    | _ => exact hP

def w_Record___init___b0 (K : PySem.W.Frag) : WS := (wIfS (wNot (wTru (wCall (cf_is_report K) (wCons (wVar 1) (wCons (wVar 2) (wCons (wVar 5) wNil)))))) (wRaise1 (He.ga K "BadReport") "index" (wVar 4)) (fun _ De n δ => De.nx n δ))
def w_Record___init__ (K : PySem.W.Frag) : WM := (mPre (wIfS (wOr (wNot (wTru (wCall (cf_are_names K) (wCons (wVar 1) (wCons (wC (.int 1)) (wCons (wC (.int 4)) wNil)))))) (wNot (wTru (wCall (cf_are_names K) (wCons (wVar 2) (wCons (wC (.int 2)) (wCons (wC (.int 8)) wNil))))))) (wRaise0 (He.ga K "BadRecord")) (fun _ De n δ => De.nx n δ)) (mPre (wIfS (wOr (wNot (wTru (wIsiT K (wVar 3) (wCons (wC (.obj (.ty "list"))) (wCons (wC (.obj (.ty "tuple"))) wNil))))) (wB (wOp gtW (wCB lenW (wCons (wVar 3) wNil)) (wC (.int 30))))) (wRaise0 (He.ga K "BadRecord")) (fun _ De n δ => De.nx n δ)) (mPre (wForS (wEn (wCons (wVar 3) wNil)) (gT 2 (gsCons (gN 4) (gsCons (gN 5) gsNil))) (w_Record___init___b0 K)) (mSto K "own_observers" (wCB tupleW (wCons (wCB sortSW (wCons (wVar 1) wNil)) wNil)) (mSto K "own_things" (wCB tupleW (wCons (wCB sortSW (wCons (wVar 2) wNil)) wNil)) (mSto K "own_reports" (wCB tupleW (wCons (wVar 3) wNil)) mNil))))))
-- slots of Record.__init__: 0 self, 1 observers, 2 things, 3 reports, 4 index, 5 report
def nms (d : D) : List Str := match seqD d with
  | some xs => strsD xs
  | none => []
/-- a report -/
structure Rp where
  o : Str
  a : Str
  b : Str
  w : Str
deriving DecidableEq
def rpD (p : Rp) : D := .tup [.str p.o, .str p.a, .str p.b, .str p.w]
def rpOf : D → Option Rp
  | .tup [.str o, .str a, .str b, .str w] => some ⟨o, a, b, w⟩
  | _ => none
structure Rec where
  os : List Str
  ts : List Str
  rs : List Rp
deriving DecidableEq
inductive RecR where
  | ok (r : Rec)
  | bad
  | badAt (i : Nat)
def recOf (o t r : D) : RecR :=
  if (areNm o 1 4 && areNm t 2 8) = true then
    match seqD r with
    | some xs => if xs.length ≤ 30 then (match xs.findIdx? (fun x => !isRp (nms o) (nms t) x) with | none => .ok ⟨sortS (nms o), sortS (nms t), xs.filterMap rpOf⟩ | some i => .badAt i) else .bad
    | none => .bad
  else .bad
abbrev recD (K : PySem.W.Frag) (r : Rec) : D := .ins (He.ga K "Record") [("own_observers", .tup (r.os.map .str)), ("own_things", .tup (r.ts.map .str)), ("own_reports", .tup (r.rs.map rpD))]
structure Rp.ok (os ts : List Str) (p : Rp) : Prop where
  o : p.o ∈ os
  a : p.a ∈ ts
  b : p.b ∈ ts
  ne : p.a ≠ p.b
  w : p.w ∈ answersL
theorem oneOf_str {d : D} {ns : List Str} (h : oneOf d ns = true) : ∃ s, d = .str s ∧ s ∈ ns := by
  cases d <;> simp [oneOf] at h
  exact ⟨_, rfl, h⟩
theorem isRp_of {os ts : List Str} {d : D} (h : isRp os ts d = true) : ∃ p : Rp, d = rpD p ∧ p.ok os ts := by
  unfold isRp at h
  split at h
  · rename_i o a b w
    rw [Bool.and_eq_true] at h
    obtain ⟨o, rfl, h1⟩ := oneOf_str h.1
    have h2 := h.2
    simp only [isPl, Bool.and_eq_true] at h2
    obtain ⟨h3, h4, h5, h6⟩ := h2
    obtain ⟨a, rfl, g1⟩ := oneOf_str h3
    obtain ⟨b, rfl, g2⟩ := oneOf_str h4
    obtain ⟨w, rfl, g3⟩ := oneOf_str h6
    simp only [isPl.isSame, Bool.not_eq_true', decide_eq_false_iff_not] at h5
    exact ⟨⟨o, a, b, w⟩, rfl, ⟨h1, g1, g2, h5, g3⟩⟩
  · cases h
theorem isRp_ok {os ts : List Str} {p : Rp} (h : p.ok os ts) : isRp os ts (rpD p) = true := by
  simp [isRp, rpD, isPl, isPl.isSame, oneOf, h.o, h.a, h.b, h.ne, h.w]
theorem rpOf_rpD (p : Rp) : rpOf (rpD p) = some p := rfl
theorem rps_of {os ts : List Str} : ∀ {xs : List D}, (∀ x ∈ xs, isRp os ts x = true) → xs = (xs.filterMap rpOf).map rpD ∧ ∀ p ∈ xs.filterMap rpOf, p.ok os ts
  | [], _ => ⟨rfl, fun p h => nomatch h⟩
  | x :: xs, h => by
    obtain ⟨p, rfl, hp⟩ := isRp_of (h x (.head _))
    obtain ⟨i1, i2⟩ := rps_of fun y hy => h y (.tail _ hy)
    rw [List.filterMap_cons, rpOf_rpD]
    refine ⟨by rw [List.map_cons, ← i1], fun q hq => ?_⟩
    rcases List.mem_cons.mp hq with rfl | hq
    · exact hp
    · exact i2 q hq
theorem find_none {os ts : List Str} {xs : List D} (h : xs.findIdx? (fun x => !isRp os ts x) = none) : ∀ x ∈ xs, isRp os ts x = true := fun x hx => by
  have := List.findIdx?_eq_none_iff.mp h x hx
  simpa using this
def recP (K : PySem.W.Frag) (c : Ct) (n : Nat) (P : Nat → D → Prop) : RecR → Prop
  | .ok r => P n (recD K r)
  | .bad => c.ex n ⟨.ref (He.ga K "BadRecord"), none⟩
  | .badAt i => c.ex n ⟨.ref (He.ga K "BadReport"), some [("index", .int i)]⟩
/-- a list of any values, tuples among them -/
def cmpR (K : PySem.W.Frag) (d : D) : Prop := AV1 K d ∧ ∀ xs, seqD d = some xs → ∀ x ∈ xs, AV1 K x ∧ ∀ ys, x = .tup ys → ∀ y ∈ ys, AV1 K y
structure KRec (K : PySem.W.Frag) : Prop where
  cls : Cls K (He.ga K "Record")
  no1 : NoAttr K (He.ga K "Record") "own_observers"
  no2 : NoAttr K (He.ga K "Record") "own_things"
  no3 : NoAttr K (He.ga K "Record") "own_reports"
  ins : InsOk K (He.ga K "Record")
  is0 : ∀ t ∈ tys, PySem.W.kitOne K (.type t) (.ref (He.ga K "Record")) = some false
  is1 : PySem.W.kitOne K (.ref (He.ga K "Record")) (.ref (He.ga K "Record")) = some true
  nf0 : ∀ t ∈ tys, PySem.W.notFirst K (He.ga K "Record") (.type t) = true
  nf1 : PySem.W.notFirst K (He.ga K "Record") (.ref (He.ga K "Record")) = true
def krB (K : PySem.W.Frag) : Bool := insB K "Record" && ((He.Fa.noat "Record" "own_observers").ok K && ((He.Fa.noat "Record" "own_things").ok K && ((He.Fa.noat "Record" "own_reports").ok K && (isC0B K "Record" && isC1B K "Record"))))
theorem krB_ok {K : PySem.W.Frag} (h : krB K = true) : KRec K := by
  obtain ⟨h1, h⟩ := He.ba h
  obtain ⟨h2, h⟩ := He.ba h
  obtain ⟨h3, h⟩ := He.ba h
  obtain ⟨h4, h⟩ := He.ba h
  obtain ⟨h5, h6⟩ := He.ba h
  have i := insB_ok h1
  exact ⟨i.ci.cl, He.noat_ok h2, He.noat_ok h3, He.noat_ok h4, i, (isC0B_ok h5).1, (isC1B_ok h6).1, (isC0B_ok h5).2, (isC1B_ok h6).2⟩
def cf_Record (K : PySem.W.Frag) : Con := fun c n ds P => match ds with
  | [o, t, r] => cmpL K o ∧ cmpL K t ∧ cmpR K r ∧ recP K c n P (recOf o t r)
  | _ => False
theorem areNm_strs {d : D} {a b : Int} (h : areNm d a b = true) : ∃ ns : List Str, seqD d = some (ns.map .str) ∧ nms d = ns ∧ (∀ s ∈ ns, nameB s = true) ∧ ns.Nodup ∧ a ≤ ns.length ∧ (ns.length : Int) ≤ b := by
  unfold areNm at h
  unfold nms
  cases q : seqD d with
  | none => rw [q] at h; cases h
  | some xs =>
    rw [q] at h
    simp only [Bool.and_eq_true, decide_eq_true_eq] at h
    obtain ⟨⟨h1, h2⟩, h3, h4⟩ := h
    have key : ∀ xs : List D, xs.all isNm = true → xs = (strsD xs).map .str ∧ ∀ s ∈ strsD xs, nameB s = true := by
      intro xs
      induction xs with
      | nil => intro _; exact ⟨rfl, fun s hs => nomatch hs⟩
      | cons x xs ih =>
        intro h
        rw [List.all_cons, Bool.and_eq_true] at h
        obtain ⟨s, rfl, hs⟩ := isNm_str h.1
        obtain ⟨i1, i2⟩ := ih h.2
        refine ⟨by rw [strsD, List.map_cons, ← i1], fun t ht => ?_⟩
        rcases List.mem_cons.mp ht with rfl | ht
        · exact hs
        · exact i2 t ht
    obtain ⟨k1, k2⟩ := key xs h3
    have kl := congrArg List.length k1
    rw [List.length_map] at kl
    exact ⟨strsD xs, by rw [← k1], rfl, k2, h4, by omega, by omega⟩
theorem areNm_ok {d : D} {a b : Int} (h : areNm d a b = true) : strS d (nms d) := by
  obtain ⟨ns, h1, h2, h3, _⟩ := areNm_strs h
  rw [h2]
  exact ⟨h1, fun s hs => nameB_ok (h3 s hs)⟩
theorem init_loop {K : PySem.W.Frag} {c : Ct} {De : DEnds} {n : Nat} {s0 : Sl} {o t r : D} (ho : strS o (nms o)) (ht : strS t (nms t)) : ∀ (xs : List D) (k : Nat) (s4 s5 : Sl), (∀ x ∈ xs, AV1 K x ∧ ∀ ys, x = .tup ys → ∀ y ∈ ys, AV1 K y) →
    (match xs.findIdx? (fun x => !isRp (nms o) (nms t) x) with | none => ∀ s4 s5, De.nx n [s0, .v o, .v t, .v r, s4, s5] | some i => c.ex n ⟨.ref (He.ga K "BadReport"), some [("index", .int ((i + k : Nat) : Int))]⟩) →
    wFor (gT 2 (gsCons (gN 4) (gsCons (gN 5) gsNil))) (w_Record___init___b0 K) c De (enF k xs) n [s0, .v o, .v t, .v r, s4, s5]
  | [], k, s4, s5, _, h => h s4 s5
  | x :: xs, k, s4, s5, hx, h => by
    have h0 := hx x (.head _)
    rw [List.findIdx?_cons] at h
    simp only [enF, wFor, w_Record___init___b0, cf_is_report, Dt.wSeq, Dt.wIfS, Dt.wRet, Dt.wSet, Dt.wOwn, Dt.wAsg, Dt.wPar2, Dt.wPar3, Dt.xV, Dt.xO, Dt.wVar, Dt.wC, Dt.wCB, Dt.wCons, Dt.wNil, Dt.wOp, Dt.wTru, Dt.wB, Dt.wNot, Dt.wAnd, Dt.wOr, Dt.wV, Dt.wAndV, Dt.wOrV, Dt.wNotV, Dt.wIf, Dt.wCall, Dt.wLst, Dt.wTup, Dt.wLc, Dt.wForS, Dt.wItems, Dt.wEn, Dt.wZi, Dt.wRg1, Dt.wRg2, Dt.wSl, Dt.oNone, Dt.oSome, Dt.wJoin, Dt.wSplit, Dt.wDisp, Dt.psCons, Dt.psNil, Dt.wBor, Dt.wBorT, Dt.wBorF, Dt.wDrop, Dt.wNeg, Dt.wInt, Dt.wCh, Dt.wStar, Dt.wStA, Dt.gU, Dt.wRev, Dt.wProp, Dt.wFld, Dt.wRaise0, Dt.wRaise1, Dt.wApp, Dt.wSetI, Dt.wPutI, Dt.ownL, Dt.ownM, Dt.wCallD, Dt.wCallK, Dt.mPre, Dt.mSto, Dt.mNil, Dt.asB, Dt.asI, Dt.asS, Dt.asK, Dt.asL, Dt.truW, Dt.addW, Dt.addF, Dt.subW, Dt.iiW, Dt.ciW, Dt.ltW, Dt.leW, Dt.gtW, Dt.geW, Dt.mulW, Dt.fdivW, Dt.modW, Dt.iltW, Dt.iltW.iiB, Dt.ileW, Dt.ixW, Dt.slW, Dt.slF, Dt.lenW, Dt.intW, Dt.absW, Dt.ii2, Dt.listW, Dt.tupleW, Dt.dictW, Dt.inW, Dt.notInW, Dt.isNW, Dt.isNotNW, Dt.isN, Dt.lenOW, Dt.eqW_ii, Dt.neW_ii, Dt.eqW_bb, Dt.eqW_ss, Dt.neW_ss, Dt.isK_non_bool, Dt.isK_non_int, Dt.isK_non_str, Dt.isK_non_list, Dt.isK_non_tuple, Dt.isK_non_dict, Dt.isK_bl_bool, Dt.isK_bl_int, Dt.isK_bl_str, Dt.isK_bl_list, Dt.isK_bl_tuple, Dt.isK_bl_dict, Dt.isK_int_bool, Dt.isK_int_int, Dt.isK_int_str, Dt.isK_int_list, Dt.isK_int_tuple, Dt.isK_int_dict, Dt.isK_str_bool, Dt.isK_str_int, Dt.isK_str_str, Dt.isK_str_list, Dt.isK_str_tuple, Dt.isK_str_dict, Dt.isK_lst_bool, Dt.isK_lst_int, Dt.isK_lst_str, Dt.isK_lst_list, Dt.isK_lst_tuple, Dt.isK_lst_dict, Dt.isK_tup_bool, Dt.isK_tup_int, Dt.isK_tup_str, Dt.isK_tup_list, Dt.isK_tup_tuple, Dt.isK_tup_dict, Dt.isK_dct_bool, Dt.isK_dct_int, Dt.isK_dct_str, Dt.isK_dct_list, Dt.isK_dct_tuple, Dt.isK_dct_dict, Dt.isK_ins_bool, Dt.isK_ins_int, Dt.isK_ins_str, Dt.isK_ins_list, Dt.isK_ins_tuple, Dt.isK_ins_dict, Dt.gN, Dt.gT, Dt.gsCons, Dt.gsNil, Dt.δ0, Dt.frz, Dt.wipeD, Dt.keyD, Dt.De0, List.map_cons, List.map_nil, List.length_cons, List.length_nil, List.replicate_succ, List.replicate_zero, List.cons_append, List.nil_append, List.getElem?_cons_zero, List.getElem?_cons_succ, List.set_cons_zero, List.set_cons_succ, Nat.reduceSub, Nat.reduceAdd, Nat.zero_add, reduceIte, Bool.not_true, Bool.not_false, Bool.false_eq_true, Bool.not_eq_true, Bool.true_eq_false, true_and, and_true, ne_eq, decide_eq_true_eq, Bool.not_eq_eq_eq_not, decide_eq_false_iff_not, Option.isSome_some, Option.isSome_none, Bool.or_eq_true, Bool.and_eq_true]
    refine ⟨h0.1, h0.2, _, _, ho, ht, ?_⟩
    cases z : isRp (nms o) (nms t) x with
    | false =>
      rw [z] at h
      simpa using h
    | true =>
      rw [z] at h
      simp only [Dt.wSeq, Dt.wIfS, Dt.wRet, Dt.wSet, Dt.wOwn, Dt.wAsg, Dt.wPar2, Dt.wPar3, Dt.xV, Dt.xO, Dt.wVar, Dt.wC, Dt.wCB, Dt.wCons, Dt.wNil, Dt.wOp, Dt.wTru, Dt.wB, Dt.wNot, Dt.wAnd, Dt.wOr, Dt.wV, Dt.wAndV, Dt.wOrV, Dt.wNotV, Dt.wIf, Dt.wCall, Dt.wLst, Dt.wTup, Dt.wLc, Dt.wForS, Dt.wItems, Dt.wEn, Dt.wZi, Dt.wRg1, Dt.wRg2, Dt.wSl, Dt.oNone, Dt.oSome, Dt.wJoin, Dt.wSplit, Dt.wDisp, Dt.psCons, Dt.psNil, Dt.wBor, Dt.wBorT, Dt.wBorF, Dt.wDrop, Dt.wNeg, Dt.wInt, Dt.wCh, Dt.wStar, Dt.wStA, Dt.gU, Dt.wRev, Dt.wProp, Dt.wFld, Dt.wRaise0, Dt.wRaise1, Dt.wApp, Dt.wSetI, Dt.wPutI, Dt.ownL, Dt.ownM, Dt.wCallD, Dt.wCallK, Dt.mPre, Dt.mSto, Dt.mNil, Dt.asB, Dt.asI, Dt.asS, Dt.asK, Dt.asL, Dt.truW, Dt.addW, Dt.addF, Dt.subW, Dt.iiW, Dt.ciW, Dt.ltW, Dt.leW, Dt.gtW, Dt.geW, Dt.mulW, Dt.fdivW, Dt.modW, Dt.iltW, Dt.iltW.iiB, Dt.ileW, Dt.ixW, Dt.slW, Dt.slF, Dt.lenW, Dt.intW, Dt.absW, Dt.ii2, Dt.listW, Dt.tupleW, Dt.dictW, Dt.inW, Dt.notInW, Dt.isNW, Dt.isNotNW, Dt.isN, Dt.lenOW, Dt.eqW_ii, Dt.neW_ii, Dt.eqW_bb, Dt.eqW_ss, Dt.neW_ss, Dt.isK_non_bool, Dt.isK_non_int, Dt.isK_non_str, Dt.isK_non_list, Dt.isK_non_tuple, Dt.isK_non_dict, Dt.isK_bl_bool, Dt.isK_bl_int, Dt.isK_bl_str, Dt.isK_bl_list, Dt.isK_bl_tuple, Dt.isK_bl_dict, Dt.isK_int_bool, Dt.isK_int_int, Dt.isK_int_str, Dt.isK_int_list, Dt.isK_int_tuple, Dt.isK_int_dict, Dt.isK_str_bool, Dt.isK_str_int, Dt.isK_str_str, Dt.isK_str_list, Dt.isK_str_tuple, Dt.isK_str_dict, Dt.isK_lst_bool, Dt.isK_lst_int, Dt.isK_lst_str, Dt.isK_lst_list, Dt.isK_lst_tuple, Dt.isK_lst_dict, Dt.isK_tup_bool, Dt.isK_tup_int, Dt.isK_tup_str, Dt.isK_tup_list, Dt.isK_tup_tuple, Dt.isK_tup_dict, Dt.isK_dct_bool, Dt.isK_dct_int, Dt.isK_dct_str, Dt.isK_dct_list, Dt.isK_dct_tuple, Dt.isK_dct_dict, Dt.isK_ins_bool, Dt.isK_ins_int, Dt.isK_ins_str, Dt.isK_ins_list, Dt.isK_ins_tuple, Dt.isK_ins_dict, Dt.gN, Dt.gT, Dt.gsCons, Dt.gsNil, Dt.δ0, Dt.frz, Dt.wipeD, Dt.keyD, Dt.De0, List.map_cons, List.map_nil, List.length_cons, List.length_nil, List.replicate_succ, List.replicate_zero, List.cons_append, List.nil_append, List.getElem?_cons_zero, List.getElem?_cons_succ, List.set_cons_zero, List.set_cons_succ, Nat.reduceSub, Nat.reduceAdd, Nat.zero_add, reduceIte, Bool.not_true, Bool.not_false, Bool.false_eq_true, Bool.not_eq_true, Bool.true_eq_false, true_and, and_true, ne_eq, decide_eq_true_eq, Bool.not_eq_eq_eq_not, decide_eq_false_iff_not, Option.isSome_some, Option.isSome_none, Bool.or_eq_true, Bool.and_eq_true]
      refine init_loop ho ht xs (k + 1) _ _ (fun y hy => hx y (.tail _ hy)) ?_
      cases q : xs.findIdx? (fun x => !isRp (nms o) (nms t) x) with
      | none =>
        rw [q] at h
        exact h
      | some i =>
        rw [q] at h
        have e : i + (k + 1) = i + 1 + k := by omega
        simpa [e] using h
theorem pl_Record___init__ {K : PySem.W.Frag} (kr : KRec K) (a : Addr) (c : Ct) (n : Nat) (ds : List D) (P : Nat → D → Prop) (h : cf_Record K c n ds P) : w_Record___init__ K c (He.ga K "Record") a n (δ0 ["self", "observers", "things", "reports", "index", "report"] (.obj (.ref a) :: ds)) [] fun n' fs => P n' (.ins (He.ga K "Record") fs) := by
  match ds, h with
  | [o, t, r], ⟨ho, ht, hr, hP⟩ =>
    simp only [w_Record___init__, wIsiT, cf_are_names, Dt.wSeq, Dt.wIfS, Dt.wRet, Dt.wSet, Dt.wOwn, Dt.wAsg, Dt.wPar2, Dt.wPar3, Dt.xV, Dt.xO, Dt.wVar, Dt.wC, Dt.wCB, Dt.wCons, Dt.wNil, Dt.wOp, Dt.wTru, Dt.wB, Dt.wNot, Dt.wAnd, Dt.wOr, Dt.wV, Dt.wAndV, Dt.wOrV, Dt.wNotV, Dt.wIf, Dt.wCall, Dt.wLst, Dt.wTup, Dt.wLc, Dt.wForS, Dt.wItems, Dt.wEn, Dt.wZi, Dt.wRg1, Dt.wRg2, Dt.wSl, Dt.oNone, Dt.oSome, Dt.wJoin, Dt.wSplit, Dt.wDisp, Dt.psCons, Dt.psNil, Dt.wBor, Dt.wBorT, Dt.wBorF, Dt.wDrop, Dt.wNeg, Dt.wInt, Dt.wCh, Dt.wStar, Dt.wStA, Dt.gU, Dt.wRev, Dt.wProp, Dt.wFld, Dt.wRaise0, Dt.wRaise1, Dt.wApp, Dt.wSetI, Dt.wPutI, Dt.ownL, Dt.ownM, Dt.wCallD, Dt.wCallK, Dt.mPre, Dt.mSto, Dt.mNil, Dt.asB, Dt.asI, Dt.asS, Dt.asK, Dt.asL, Dt.truW, Dt.addW, Dt.addF, Dt.subW, Dt.iiW, Dt.ciW, Dt.ltW, Dt.leW, Dt.gtW, Dt.geW, Dt.mulW, Dt.fdivW, Dt.modW, Dt.iltW, Dt.iltW.iiB, Dt.ileW, Dt.ixW, Dt.slW, Dt.slF, Dt.lenW, Dt.intW, Dt.absW, Dt.ii2, Dt.listW, Dt.tupleW, Dt.dictW, Dt.inW, Dt.notInW, Dt.isNW, Dt.isNotNW, Dt.isN, Dt.lenOW, Dt.eqW_ii, Dt.neW_ii, Dt.eqW_bb, Dt.eqW_ss, Dt.neW_ss, Dt.isK_non_bool, Dt.isK_non_int, Dt.isK_non_str, Dt.isK_non_list, Dt.isK_non_tuple, Dt.isK_non_dict, Dt.isK_bl_bool, Dt.isK_bl_int, Dt.isK_bl_str, Dt.isK_bl_list, Dt.isK_bl_tuple, Dt.isK_bl_dict, Dt.isK_int_bool, Dt.isK_int_int, Dt.isK_int_str, Dt.isK_int_list, Dt.isK_int_tuple, Dt.isK_int_dict, Dt.isK_str_bool, Dt.isK_str_int, Dt.isK_str_str, Dt.isK_str_list, Dt.isK_str_tuple, Dt.isK_str_dict, Dt.isK_lst_bool, Dt.isK_lst_int, Dt.isK_lst_str, Dt.isK_lst_list, Dt.isK_lst_tuple, Dt.isK_lst_dict, Dt.isK_tup_bool, Dt.isK_tup_int, Dt.isK_tup_str, Dt.isK_tup_list, Dt.isK_tup_tuple, Dt.isK_tup_dict, Dt.isK_dct_bool, Dt.isK_dct_int, Dt.isK_dct_str, Dt.isK_dct_list, Dt.isK_dct_tuple, Dt.isK_dct_dict, Dt.isK_ins_bool, Dt.isK_ins_int, Dt.isK_ins_str, Dt.isK_ins_list, Dt.isK_ins_tuple, Dt.isK_ins_dict, Dt.gN, Dt.gT, Dt.gsCons, Dt.gsNil, Dt.δ0, Dt.frz, Dt.wipeD, Dt.keyD, Dt.De0, List.map_cons, List.map_nil, List.length_cons, List.length_nil, List.replicate_succ, List.replicate_zero, List.cons_append, List.nil_append, List.getElem?_cons_zero, List.getElem?_cons_succ, List.set_cons_zero, List.set_cons_succ, Nat.reduceSub, Nat.reduceAdd, Nat.zero_add, reduceIte, Bool.not_true, Bool.not_false, Bool.false_eq_true, Bool.not_eq_true, Bool.true_eq_false, true_and, and_true, ne_eq, decide_eq_true_eq, Bool.not_eq_eq_eq_not, decide_eq_false_iff_not, Option.isSome_some, Option.isSome_none, Bool.or_eq_true, Bool.and_eq_true]
    refine ⟨ho, ?_⟩
    unfold recOf at hP
    cases z1 : areNm o 1 4 with
    | false =>
      rw [z1] at hP
      exact hP
    | true =>
      refine ⟨ht, ?_⟩
      cases z2 : areNm t 2 8 with
      | false =>
        rw [z1, z2] at hP
        exact hP
      | true =>
        rw [z1, z2] at hP
        simp only [Dt.wSeq, Dt.wIfS, Dt.wRet, Dt.wSet, Dt.wOwn, Dt.wAsg, Dt.wPar2, Dt.wPar3, Dt.xV, Dt.xO, Dt.wVar, Dt.wC, Dt.wCB, Dt.wCons, Dt.wNil, Dt.wOp, Dt.wTru, Dt.wB, Dt.wNot, Dt.wAnd, Dt.wOr, Dt.wV, Dt.wAndV, Dt.wOrV, Dt.wNotV, Dt.wIf, Dt.wCall, Dt.wLst, Dt.wTup, Dt.wLc, Dt.wForS, Dt.wItems, Dt.wEn, Dt.wZi, Dt.wRg1, Dt.wRg2, Dt.wSl, Dt.oNone, Dt.oSome, Dt.wJoin, Dt.wSplit, Dt.wDisp, Dt.psCons, Dt.psNil, Dt.wBor, Dt.wBorT, Dt.wBorF, Dt.wDrop, Dt.wNeg, Dt.wInt, Dt.wCh, Dt.wStar, Dt.wStA, Dt.gU, Dt.wRev, Dt.wProp, Dt.wFld, Dt.wRaise0, Dt.wRaise1, Dt.wApp, Dt.wSetI, Dt.wPutI, Dt.ownL, Dt.ownM, Dt.wCallD, Dt.wCallK, Dt.mPre, Dt.mSto, Dt.mNil, Dt.asB, Dt.asI, Dt.asS, Dt.asK, Dt.asL, Dt.truW, Dt.addW, Dt.addF, Dt.subW, Dt.iiW, Dt.ciW, Dt.ltW, Dt.leW, Dt.gtW, Dt.geW, Dt.mulW, Dt.fdivW, Dt.modW, Dt.iltW, Dt.iltW.iiB, Dt.ileW, Dt.ixW, Dt.slW, Dt.slF, Dt.lenW, Dt.intW, Dt.absW, Dt.ii2, Dt.listW, Dt.tupleW, Dt.dictW, Dt.inW, Dt.notInW, Dt.isNW, Dt.isNotNW, Dt.isN, Dt.lenOW, Dt.eqW_ii, Dt.neW_ii, Dt.eqW_bb, Dt.eqW_ss, Dt.neW_ss, Dt.isK_non_bool, Dt.isK_non_int, Dt.isK_non_str, Dt.isK_non_list, Dt.isK_non_tuple, Dt.isK_non_dict, Dt.isK_bl_bool, Dt.isK_bl_int, Dt.isK_bl_str, Dt.isK_bl_list, Dt.isK_bl_tuple, Dt.isK_bl_dict, Dt.isK_int_bool, Dt.isK_int_int, Dt.isK_int_str, Dt.isK_int_list, Dt.isK_int_tuple, Dt.isK_int_dict, Dt.isK_str_bool, Dt.isK_str_int, Dt.isK_str_str, Dt.isK_str_list, Dt.isK_str_tuple, Dt.isK_str_dict, Dt.isK_lst_bool, Dt.isK_lst_int, Dt.isK_lst_str, Dt.isK_lst_list, Dt.isK_lst_tuple, Dt.isK_lst_dict, Dt.isK_tup_bool, Dt.isK_tup_int, Dt.isK_tup_str, Dt.isK_tup_list, Dt.isK_tup_tuple, Dt.isK_tup_dict, Dt.isK_dct_bool, Dt.isK_dct_int, Dt.isK_dct_str, Dt.isK_dct_list, Dt.isK_dct_tuple, Dt.isK_dct_dict, Dt.isK_ins_bool, Dt.isK_ins_int, Dt.isK_ins_str, Dt.isK_ins_list, Dt.isK_ins_tuple, Dt.isK_ins_dict, Dt.gN, Dt.gT, Dt.gsCons, Dt.gsNil, Dt.δ0, Dt.frz, Dt.wipeD, Dt.keyD, Dt.De0, List.map_cons, List.map_nil, List.length_cons, List.length_nil, List.replicate_succ, List.replicate_zero, List.cons_append, List.nil_append, List.getElem?_cons_zero, List.getElem?_cons_succ, List.set_cons_zero, List.set_cons_succ, Nat.reduceSub, Nat.reduceAdd, Nat.zero_add, reduceIte, Bool.not_true, Bool.not_false, Bool.false_eq_true, Bool.not_eq_true, Bool.true_eq_false, true_and, and_true, ne_eq, decide_eq_true_eq, Bool.not_eq_eq_eq_not, decide_eq_false_iff_not, Option.isSome_some, Option.isSome_none, Bool.or_eq_true, Bool.and_eq_true]
        refine ⟨by decide, isiT_k (u := "list") (v := "tuple") hr.1 (by decide) (by decide) ?_⟩
        rw [seqK]
        cases q : seqD r with
        | none =>
          rw [q] at hP
          exact hP
        | some xs =>
          rw [q] at hP
          have hx := hr.2 xs q
          have key : ∀ (De : DEnds) (s4 s5 : Sl), (∀ (_ : xs.length ≤ 30) s4 s5, (xs.findIdx? (fun x => !isRp (nms o) (nms t) x)) = none → De.nx n [.v (.obj (.ref a)), .v o, .v t, .v r, s4, s5]) → xs.length ≤ 30 → wFor (gT 2 (gsCons (gN 4) (gsCons (gN 5) gsNil))) (w_Record___init___b0 K) c De (enF 0 xs) n [.v (.obj (.ref a)), .v o, .v t, .v r, s4, s5] := by
            intro De s4 s5 hn hl
            refine init_loop (areNm_ok z1) (areNm_ok z2) xs 0 _ _ hx ?_
            simp only [Bool.and_self, reduceIte, if_pos hl] at hP
            cases q2 : xs.findIdx? (fun x => !isRp (nms o) (nms t) x) with
            | none => exact fun s4 s5 => hn hl s4 s5 q2
            | some i =>
              rw [q2] at hP
              exact hP
          have fin : ∀ s4 s5 : Sl, xs.length ≤ 30 → (xs.findIdx? (fun x => !isRp (nms o) (nms t) x)) = none → P n (.ins (He.ga K "Record") [("own_observers", .tup ((sortS (nms o)).map .str)), ("own_things", .tup ((sortS (nms t)).map .str)), ("own_reports", .tup xs)]) := by
            intro s4 s5 hl q2
            simp only [Bool.and_self, reduceIte, if_pos hl, q2] at hP
            have e := (rps_of (find_none q2)).1
            rw [e]
            exact hP
          obtain ⟨ons, o1, o2, o3, o4, o5, o6⟩ := areNm_strs z1
          obtain ⟨tns, t1, t2, t3, t4, t5, t6⟩ := areNm_strs z2
          rcases seqD_of q with rfl | rfl
          all_goals
            simp only [Dt.wSeq, Dt.wIfS, Dt.wRet, Dt.wSet, Dt.wOwn, Dt.wAsg, Dt.wPar2, Dt.wPar3, Dt.xV, Dt.xO, Dt.wVar, Dt.wC, Dt.wCB, Dt.wCons, Dt.wNil, Dt.wOp, Dt.wTru, Dt.wB, Dt.wNot, Dt.wAnd, Dt.wOr, Dt.wV, Dt.wAndV, Dt.wOrV, Dt.wNotV, Dt.wIf, Dt.wCall, Dt.wLst, Dt.wTup, Dt.wLc, Dt.wForS, Dt.wItems, Dt.wEn, Dt.wZi, Dt.wRg1, Dt.wRg2, Dt.wSl, Dt.oNone, Dt.oSome, Dt.wJoin, Dt.wSplit, Dt.wDisp, Dt.psCons, Dt.psNil, Dt.wBor, Dt.wBorT, Dt.wBorF, Dt.wDrop, Dt.wNeg, Dt.wInt, Dt.wCh, Dt.wStar, Dt.wStA, Dt.gU, Dt.wRev, Dt.wProp, Dt.wFld, Dt.wRaise0, Dt.wRaise1, Dt.wApp, Dt.wSetI, Dt.wPutI, Dt.ownL, Dt.ownM, Dt.wCallD, Dt.wCallK, Dt.mPre, Dt.mSto, Dt.mNil, Dt.asB, Dt.asI, Dt.asS, Dt.asK, Dt.asL, Dt.truW, Dt.addW, Dt.addF, Dt.subW, Dt.iiW, Dt.ciW, Dt.ltW, Dt.leW, Dt.gtW, Dt.geW, Dt.mulW, Dt.fdivW, Dt.modW, Dt.iltW, Dt.iltW.iiB, Dt.ileW, Dt.ixW, Dt.slW, Dt.slF, Dt.lenW, Dt.intW, Dt.absW, Dt.ii2, Dt.listW, Dt.tupleW, Dt.dictW, Dt.inW, Dt.notInW, Dt.isNW, Dt.isNotNW, Dt.isN, Dt.lenOW, Dt.eqW_ii, Dt.neW_ii, Dt.eqW_bb, Dt.eqW_ss, Dt.neW_ss, Dt.isK_non_bool, Dt.isK_non_int, Dt.isK_non_str, Dt.isK_non_list, Dt.isK_non_tuple, Dt.isK_non_dict, Dt.isK_bl_bool, Dt.isK_bl_int, Dt.isK_bl_str, Dt.isK_bl_list, Dt.isK_bl_tuple, Dt.isK_bl_dict, Dt.isK_int_bool, Dt.isK_int_int, Dt.isK_int_str, Dt.isK_int_list, Dt.isK_int_tuple, Dt.isK_int_dict, Dt.isK_str_bool, Dt.isK_str_int, Dt.isK_str_str, Dt.isK_str_list, Dt.isK_str_tuple, Dt.isK_str_dict, Dt.isK_lst_bool, Dt.isK_lst_int, Dt.isK_lst_str, Dt.isK_lst_list, Dt.isK_lst_tuple, Dt.isK_lst_dict, Dt.isK_tup_bool, Dt.isK_tup_int, Dt.isK_tup_str, Dt.isK_tup_list, Dt.isK_tup_tuple, Dt.isK_tup_dict, Dt.isK_dct_bool, Dt.isK_dct_int, Dt.isK_dct_str, Dt.isK_dct_list, Dt.isK_dct_tuple, Dt.isK_dct_dict, Dt.isK_ins_bool, Dt.isK_ins_int, Dt.isK_ins_str, Dt.isK_ins_list, Dt.isK_ins_tuple, Dt.isK_ins_dict, Dt.gN, Dt.gT, Dt.gsCons, Dt.gsNil, Dt.δ0, Dt.frz, Dt.wipeD, Dt.keyD, Dt.De0, List.map_cons, List.map_nil, List.length_cons, List.length_nil, List.replicate_succ, List.replicate_zero, List.cons_append, List.nil_append, List.getElem?_cons_zero, List.getElem?_cons_succ, List.set_cons_zero, List.set_cons_succ, Nat.reduceSub, Nat.reduceAdd, Nat.zero_add, reduceIte, Bool.not_true, Bool.not_false, Bool.false_eq_true, Bool.not_eq_true, Bool.true_eq_false, true_and, and_true, ne_eq, decide_eq_true_eq, Bool.not_eq_eq_eq_not, decide_eq_false_iff_not, Option.isSome_some, Option.isSome_none, Bool.or_eq_true, Bool.and_eq_true]
            split
            · rename_i hl
              simp only [Bool.and_self, reduceIte, if_neg (show ¬ xs.length ≤ 30 by omega)] at hP
              exact hP
            · rename_i hl
              refine ⟨_, xs, rfl, rfl, ?_⟩
              rw [enD_F]
              refine key _ _ _ (fun hl s4 s5 q2 => ?_) (by omega)
              have := fin s4 s5 hl q2
              rw [o2, t2] at this
              simp only [Dt.wSeq, Dt.wIfS, Dt.wRet, Dt.wSet, Dt.wOwn, Dt.wAsg, Dt.wPar2, Dt.wPar3, Dt.xV, Dt.xO, Dt.wVar, Dt.wC, Dt.wCB, Dt.wCons, Dt.wNil, Dt.wOp, Dt.wTru, Dt.wB, Dt.wNot, Dt.wAnd, Dt.wOr, Dt.wV, Dt.wAndV, Dt.wOrV, Dt.wNotV, Dt.wIf, Dt.wCall, Dt.wLst, Dt.wTup, Dt.wLc, Dt.wForS, Dt.wItems, Dt.wEn, Dt.wZi, Dt.wRg1, Dt.wRg2, Dt.wSl, Dt.oNone, Dt.oSome, Dt.wJoin, Dt.wSplit, Dt.wDisp, Dt.psCons, Dt.psNil, Dt.wBor, Dt.wBorT, Dt.wBorF, Dt.wDrop, Dt.wNeg, Dt.wInt, Dt.wCh, Dt.wStar, Dt.wStA, Dt.gU, Dt.wRev, Dt.wProp, Dt.wFld, Dt.wRaise0, Dt.wRaise1, Dt.wApp, Dt.wSetI, Dt.wPutI, Dt.ownL, Dt.ownM, Dt.wCallD, Dt.wCallK, Dt.mPre, Dt.mSto, Dt.mNil, Dt.asB, Dt.asI, Dt.asS, Dt.asK, Dt.asL, Dt.truW, Dt.addW, Dt.addF, Dt.subW, Dt.iiW, Dt.ciW, Dt.ltW, Dt.leW, Dt.gtW, Dt.geW, Dt.mulW, Dt.fdivW, Dt.modW, Dt.iltW, Dt.iltW.iiB, Dt.ileW, Dt.ixW, Dt.slW, Dt.slF, Dt.lenW, Dt.intW, Dt.absW, Dt.ii2, Dt.listW, Dt.tupleW, Dt.dictW, Dt.inW, Dt.notInW, Dt.isNW, Dt.isNotNW, Dt.isN, Dt.lenOW, Dt.eqW_ii, Dt.neW_ii, Dt.eqW_bb, Dt.eqW_ss, Dt.neW_ss, Dt.isK_non_bool, Dt.isK_non_int, Dt.isK_non_str, Dt.isK_non_list, Dt.isK_non_tuple, Dt.isK_non_dict, Dt.isK_bl_bool, Dt.isK_bl_int, Dt.isK_bl_str, Dt.isK_bl_list, Dt.isK_bl_tuple, Dt.isK_bl_dict, Dt.isK_int_bool, Dt.isK_int_int, Dt.isK_int_str, Dt.isK_int_list, Dt.isK_int_tuple, Dt.isK_int_dict, Dt.isK_str_bool, Dt.isK_str_int, Dt.isK_str_str, Dt.isK_str_list, Dt.isK_str_tuple, Dt.isK_str_dict, Dt.isK_lst_bool, Dt.isK_lst_int, Dt.isK_lst_str, Dt.isK_lst_list, Dt.isK_lst_tuple, Dt.isK_lst_dict, Dt.isK_tup_bool, Dt.isK_tup_int, Dt.isK_tup_str, Dt.isK_tup_list, Dt.isK_tup_tuple, Dt.isK_tup_dict, Dt.isK_dct_bool, Dt.isK_dct_int, Dt.isK_dct_str, Dt.isK_dct_list, Dt.isK_dct_tuple, Dt.isK_dct_dict, Dt.isK_ins_bool, Dt.isK_ins_int, Dt.isK_ins_str, Dt.isK_ins_list, Dt.isK_ins_tuple, Dt.isK_ins_dict, Dt.gN, Dt.gT, Dt.gsCons, Dt.gsNil, Dt.δ0, Dt.frz, Dt.wipeD, Dt.keyD, Dt.De0, List.map_cons, List.map_nil, List.length_cons, List.length_nil, List.replicate_succ, List.replicate_zero, List.cons_append, List.nil_append, List.getElem?_cons_zero, List.getElem?_cons_succ, List.set_cons_zero, List.set_cons_succ, Nat.reduceSub, Nat.reduceAdd, Nat.zero_add, reduceIte, Bool.not_true, Bool.not_false, Bool.false_eq_true, Bool.not_eq_true, Bool.true_eq_false, true_and, and_true, ne_eq, decide_eq_true_eq, Bool.not_eq_eq_eq_not, decide_eq_false_iff_not, Option.isSome_some, Option.isSome_none, Bool.or_eq_true, Bool.and_eq_true]
              refine ⟨_, ons, o1, strL_strs ons, by omega, ?_⟩
              refine ⟨kr.cls, kr.no1, by decide, ?_⟩
              refine ⟨_, tns, t1, strL_strs tns, by omega, ?_⟩
              refine ⟨kr.cls, kr.no2, putFD_lt _ _ _ _ (by simp), ?_⟩
              refine ⟨kr.cls, kr.no3, Nat.lt_of_le_of_lt (putFD_le _ _ _) (Nat.succ_lt_succ (putFD_lt _ _ _ 999 (by simp))), ?_⟩
              exact this

def w_Record___eq__ (K : PySem.W.Frag) : WS := (wSeq (wIfS (wOr (wNot (wTru (wCB (isiXW K) (wCons (wVar 1) (wCons (wC (.obj (.ref (He.ga K "Record")))) wNil))))) (wB (wOp neW (wFld K "own_observers" (wVar 0)) (wFld K "own_observers" (wVar 1))))) (wRet (wC (.bl false))) (fun _ De n δ => De.nx n δ)) (wRet (wAndV (wOp eqW (wFld K "own_things" (wVar 0)) (wFld K "own_things" (wVar 1))) (wOp eqW (wFld K "own_reports" (wVar 0)) (wFld K "own_reports" (wVar 1))))))
-- slots of Record.__eq__: 0 self, 1 other
/-- a record's texts are texts -/
structure Rec.tx (r : Rec) : Prop where
  o : ∀ s ∈ r.os, PyData.strOk s = true
  t : ∀ s ∈ r.ts, PyData.strOk s = true
  p : ∀ p ∈ r.rs, PyData.strOk p.o = true ∧ PyData.strOk p.a = true ∧ PyData.strOk p.b = true ∧ PyData.strOk p.w = true
theorem eqD_rp (p q : Rp) : eqD (rpD p) (rpD q) = decide (p = q) := by
  have := eqD_tup .str eqD_ss [p.o, p.a, p.b, p.w] [q.o, q.a, q.b, q.w]
  unfold rpD
  rw [show [D.str p.o, .str p.a, .str p.b, .str p.w] = [p.o, p.a, p.b, p.w].map .str from rfl, show [D.str q.o, .str q.a, .str q.b, .str q.w] = [q.o, q.a, q.b, q.w].map .str from rfl, this]
  obtain ⟨a, b, c, d⟩ := p
  obtain ⟨e, f, g, h⟩ := q
  simp
theorem dep_rp {p : Rp} {n : Nat} (h : PyData.strOk p.o = true ∧ PyData.strOk p.a = true ∧ PyData.strOk p.b = true ∧ PyData.strOk p.w = true) : dep (n + 1) (rpD p) = true := by
  simp [rpD, dep, depL, h.1, h.2.1, h.2.2.1, h.2.2.2]
theorem Rec.tx.dO {r : Rec} (h : r.tx) : dep 2 (.tup (r.os.map .str)) = true := depL_strs h.o
theorem Rec.tx.dT {r : Rec} (h : r.tx) : dep 2 (.tup (r.ts.map .str)) = true := depL_strs h.t
theorem Rec.tx.dR {r : Rec} (h : r.tx) : dep 2 (.tup (r.rs.map rpD)) = true := depL_map fun p hp => dep_rp (h.p p hp)
def cf_eq (K : PySem.W.Frag) : Con := fun c n ds P => match ds with
  | [d, e] => ∃ r : Rec, r.tx ∧ d = recD K r ∧ ((∃ r' : Rec, r'.tx ∧ e = recD K r' ∧ P n (.bl (decide (r = r')))) ∨ ((tyN e).isSome = true ∧ P n (.bl false)))
  | _ => False
theorem isR_rec {K : PySem.W.Frag} (kr : KRec K) {r : Rec} {P : D → Prop} (h : P (.bl true)) : isiXW K [recD K r, .obj (.ref (He.ga K "Record"))] P := ⟨_, _, _, ⟨rfl, kr.ins.ci⟩, rfl, kr.is1, h⟩
theorem isR_not {K : PySem.W.Frag} (kr : KRec K) {d : D} {P : D → Prop} (hd : (tyN d).isSome = true) (h : P (.bl false)) : isiXW K [d, .obj (.ref (He.ga K "Record"))] P := by
  obtain ⟨t, ht⟩ := Option.isSome_iff_exists.mp hd
  obtain ⟨T, hm⟩ := tyN_D (K := K) ht
  cases d with
  | exc => cases ht
  | _ => exact ⟨_, _, _, T, rfl, kr.is0 t hm, h⟩
theorem pl_Record___eq__ {K : PySem.W.Frag} (kr : KRec K) (c : Ct) (n : Nat) (ds : List D) (P : Nat → D → Prop) (h : cf_eq K c n ds P) : w_Record___eq__ K c (De0 P) n (δ0 ["self", "other"] ds) := by
  match ds, h with
  | [d, e], ⟨r, hr, h1, h⟩ =>
    subst h1
    rcases h with ⟨r', hr', h2, h⟩ | ⟨h2, h⟩
    · subst h2
      simp only [w_Record___eq__, Dt.wSeq, Dt.wIfS, Dt.wRet, Dt.wSet, Dt.wOwn, Dt.wAsg, Dt.wPar2, Dt.wPar3, Dt.xV, Dt.xO, Dt.wVar, Dt.wC, Dt.wCB, Dt.wCons, Dt.wNil, Dt.wOp, Dt.wTru, Dt.wB, Dt.wNot, Dt.wAnd, Dt.wOr, Dt.wV, Dt.wAndV, Dt.wOrV, Dt.wNotV, Dt.wIf, Dt.wCall, Dt.wLst, Dt.wTup, Dt.wLc, Dt.wForS, Dt.wItems, Dt.wEn, Dt.wZi, Dt.wRg1, Dt.wRg2, Dt.wSl, Dt.oNone, Dt.oSome, Dt.wJoin, Dt.wSplit, Dt.wDisp, Dt.psCons, Dt.psNil, Dt.wBor, Dt.wBorT, Dt.wBorF, Dt.wDrop, Dt.wNeg, Dt.wInt, Dt.wCh, Dt.wStar, Dt.wStA, Dt.gU, Dt.wRev, Dt.wProp, Dt.wFld, Dt.wRaise0, Dt.wRaise1, Dt.wApp, Dt.wSetI, Dt.wPutI, Dt.ownL, Dt.ownM, Dt.wCallD, Dt.wCallK, Dt.mPre, Dt.mSto, Dt.mNil, Dt.asB, Dt.asI, Dt.asS, Dt.asK, Dt.asL, Dt.truW, Dt.addW, Dt.addF, Dt.subW, Dt.iiW, Dt.ciW, Dt.ltW, Dt.leW, Dt.gtW, Dt.geW, Dt.mulW, Dt.fdivW, Dt.modW, Dt.iltW, Dt.iltW.iiB, Dt.ileW, Dt.ixW, Dt.slW, Dt.slF, Dt.lenW, Dt.intW, Dt.absW, Dt.ii2, Dt.listW, Dt.tupleW, Dt.dictW, Dt.inW, Dt.notInW, Dt.isNW, Dt.isNotNW, Dt.isN, Dt.lenOW, Dt.eqW_ii, Dt.neW_ii, Dt.eqW_bb, Dt.eqW_ss, Dt.neW_ss, Dt.isK_non_bool, Dt.isK_non_int, Dt.isK_non_str, Dt.isK_non_list, Dt.isK_non_tuple, Dt.isK_non_dict, Dt.isK_bl_bool, Dt.isK_bl_int, Dt.isK_bl_str, Dt.isK_bl_list, Dt.isK_bl_tuple, Dt.isK_bl_dict, Dt.isK_int_bool, Dt.isK_int_int, Dt.isK_int_str, Dt.isK_int_list, Dt.isK_int_tuple, Dt.isK_int_dict, Dt.isK_str_bool, Dt.isK_str_int, Dt.isK_str_str, Dt.isK_str_list, Dt.isK_str_tuple, Dt.isK_str_dict, Dt.isK_lst_bool, Dt.isK_lst_int, Dt.isK_lst_str, Dt.isK_lst_list, Dt.isK_lst_tuple, Dt.isK_lst_dict, Dt.isK_tup_bool, Dt.isK_tup_int, Dt.isK_tup_str, Dt.isK_tup_list, Dt.isK_tup_tuple, Dt.isK_tup_dict, Dt.isK_dct_bool, Dt.isK_dct_int, Dt.isK_dct_str, Dt.isK_dct_list, Dt.isK_dct_tuple, Dt.isK_dct_dict, Dt.isK_ins_bool, Dt.isK_ins_int, Dt.isK_ins_str, Dt.isK_ins_list, Dt.isK_ins_tuple, Dt.isK_ins_dict, Dt.gN, Dt.gT, Dt.gsCons, Dt.gsNil, Dt.δ0, Dt.frz, Dt.wipeD, Dt.keyD, Dt.De0, List.map_cons, List.map_nil, List.length_cons, List.length_nil, List.replicate_succ, List.replicate_zero, List.cons_append, List.nil_append, List.getElem?_cons_zero, List.getElem?_cons_succ, List.set_cons_zero, List.set_cons_succ, Nat.reduceSub, Nat.reduceAdd, Nat.zero_add, reduceIte, Bool.not_true, Bool.not_false, Bool.false_eq_true, Bool.not_eq_true, Bool.true_eq_false, true_and, and_true, ne_eq, decide_eq_true_eq, Bool.not_eq_eq_eq_not, decide_eq_false_iff_not, Option.isSome_some, Option.isSome_none, Bool.or_eq_true, Bool.and_eq_true]
      refine isR_rec kr ?_
      simp only [recD, Dt.wSeq, Dt.wIfS, Dt.wRet, Dt.wSet, Dt.wOwn, Dt.wAsg, Dt.wPar2, Dt.wPar3, Dt.xV, Dt.xO, Dt.wVar, Dt.wC, Dt.wCB, Dt.wCons, Dt.wNil, Dt.wOp, Dt.wTru, Dt.wB, Dt.wNot, Dt.wAnd, Dt.wOr, Dt.wV, Dt.wAndV, Dt.wOrV, Dt.wNotV, Dt.wIf, Dt.wCall, Dt.wLst, Dt.wTup, Dt.wLc, Dt.wForS, Dt.wItems, Dt.wEn, Dt.wZi, Dt.wRg1, Dt.wRg2, Dt.wSl, Dt.oNone, Dt.oSome, Dt.wJoin, Dt.wSplit, Dt.wDisp, Dt.psCons, Dt.psNil, Dt.wBor, Dt.wBorT, Dt.wBorF, Dt.wDrop, Dt.wNeg, Dt.wInt, Dt.wCh, Dt.wStar, Dt.wStA, Dt.gU, Dt.wRev, Dt.wProp, Dt.wFld, Dt.wRaise0, Dt.wRaise1, Dt.wApp, Dt.wSetI, Dt.wPutI, Dt.ownL, Dt.ownM, Dt.wCallD, Dt.wCallK, Dt.mPre, Dt.mSto, Dt.mNil, Dt.asB, Dt.asI, Dt.asS, Dt.asK, Dt.asL, Dt.truW, Dt.addW, Dt.addF, Dt.subW, Dt.iiW, Dt.ciW, Dt.ltW, Dt.leW, Dt.gtW, Dt.geW, Dt.mulW, Dt.fdivW, Dt.modW, Dt.iltW, Dt.iltW.iiB, Dt.ileW, Dt.ixW, Dt.slW, Dt.slF, Dt.lenW, Dt.intW, Dt.absW, Dt.ii2, Dt.listW, Dt.tupleW, Dt.dictW, Dt.inW, Dt.notInW, Dt.isNW, Dt.isNotNW, Dt.isN, Dt.lenOW, Dt.eqW_ii, Dt.neW_ii, Dt.eqW_bb, Dt.eqW_ss, Dt.neW_ss, Dt.isK_non_bool, Dt.isK_non_int, Dt.isK_non_str, Dt.isK_non_list, Dt.isK_non_tuple, Dt.isK_non_dict, Dt.isK_bl_bool, Dt.isK_bl_int, Dt.isK_bl_str, Dt.isK_bl_list, Dt.isK_bl_tuple, Dt.isK_bl_dict, Dt.isK_int_bool, Dt.isK_int_int, Dt.isK_int_str, Dt.isK_int_list, Dt.isK_int_tuple, Dt.isK_int_dict, Dt.isK_str_bool, Dt.isK_str_int, Dt.isK_str_str, Dt.isK_str_list, Dt.isK_str_tuple, Dt.isK_str_dict, Dt.isK_lst_bool, Dt.isK_lst_int, Dt.isK_lst_str, Dt.isK_lst_list, Dt.isK_lst_tuple, Dt.isK_lst_dict, Dt.isK_tup_bool, Dt.isK_tup_int, Dt.isK_tup_str, Dt.isK_tup_list, Dt.isK_tup_tuple, Dt.isK_tup_dict, Dt.isK_dct_bool, Dt.isK_dct_int, Dt.isK_dct_str, Dt.isK_dct_list, Dt.isK_dct_tuple, Dt.isK_dct_dict, Dt.isK_ins_bool, Dt.isK_ins_int, Dt.isK_ins_str, Dt.isK_ins_list, Dt.isK_ins_tuple, Dt.isK_ins_dict, Dt.gN, Dt.gT, Dt.gsCons, Dt.gsNil, Dt.δ0, Dt.frz, Dt.wipeD, Dt.keyD, Dt.De0, List.map_cons, List.map_nil, List.length_cons, List.length_nil, List.replicate_succ, List.replicate_zero, List.cons_append, List.nil_append, List.getElem?_cons_zero, List.getElem?_cons_succ, List.set_cons_zero, List.set_cons_succ, Nat.reduceSub, Nat.reduceAdd, Nat.zero_add, reduceIte, Bool.not_true, Bool.not_false, Bool.false_eq_true, Bool.not_eq_true, Bool.true_eq_false, true_and, and_true, ne_eq, decide_eq_true_eq, Bool.not_eq_eq_eq_not, decide_eq_false_iff_not, Option.isSome_some, Option.isSome_none, Bool.or_eq_true, Bool.and_eq_true]
      refine ⟨kr.cls, kr.no1, _, rfl, kr.cls, kr.no1, _, rfl, ⟨2, by decide, hr.dO, hr'.dO⟩, ?_⟩
      obtain ⟨o1, t1, p1⟩ := r
      obtain ⟨o2, t2, p2⟩ := r'
      rw [eqD_tup .str eqD_ss]
      by_cases q1 : o1 = o2
      · subst q1
        simp only [Dt.wSeq, Dt.wIfS, Dt.wRet, Dt.wSet, Dt.wOwn, Dt.wAsg, Dt.wPar2, Dt.wPar3, Dt.xV, Dt.xO, Dt.wVar, Dt.wC, Dt.wCB, Dt.wCons, Dt.wNil, Dt.wOp, Dt.wTru, Dt.wB, Dt.wNot, Dt.wAnd, Dt.wOr, Dt.wV, Dt.wAndV, Dt.wOrV, Dt.wNotV, Dt.wIf, Dt.wCall, Dt.wLst, Dt.wTup, Dt.wLc, Dt.wForS, Dt.wItems, Dt.wEn, Dt.wZi, Dt.wRg1, Dt.wRg2, Dt.wSl, Dt.oNone, Dt.oSome, Dt.wJoin, Dt.wSplit, Dt.wDisp, Dt.psCons, Dt.psNil, Dt.wBor, Dt.wBorT, Dt.wBorF, Dt.wDrop, Dt.wNeg, Dt.wInt, Dt.wCh, Dt.wStar, Dt.wStA, Dt.gU, Dt.wRev, Dt.wProp, Dt.wFld, Dt.wRaise0, Dt.wRaise1, Dt.wApp, Dt.wSetI, Dt.wPutI, Dt.ownL, Dt.ownM, Dt.wCallD, Dt.wCallK, Dt.mPre, Dt.mSto, Dt.mNil, Dt.asB, Dt.asI, Dt.asS, Dt.asK, Dt.asL, Dt.truW, Dt.addW, Dt.addF, Dt.subW, Dt.iiW, Dt.ciW, Dt.ltW, Dt.leW, Dt.gtW, Dt.geW, Dt.mulW, Dt.fdivW, Dt.modW, Dt.iltW, Dt.iltW.iiB, Dt.ileW, Dt.ixW, Dt.slW, Dt.slF, Dt.lenW, Dt.intW, Dt.absW, Dt.ii2, Dt.listW, Dt.tupleW, Dt.dictW, Dt.inW, Dt.notInW, Dt.isNW, Dt.isNotNW, Dt.isN, Dt.lenOW, Dt.eqW_ii, Dt.neW_ii, Dt.eqW_bb, Dt.eqW_ss, Dt.neW_ss, Dt.isK_non_bool, Dt.isK_non_int, Dt.isK_non_str, Dt.isK_non_list, Dt.isK_non_tuple, Dt.isK_non_dict, Dt.isK_bl_bool, Dt.isK_bl_int, Dt.isK_bl_str, Dt.isK_bl_list, Dt.isK_bl_tuple, Dt.isK_bl_dict, Dt.isK_int_bool, Dt.isK_int_int, Dt.isK_int_str, Dt.isK_int_list, Dt.isK_int_tuple, Dt.isK_int_dict, Dt.isK_str_bool, Dt.isK_str_int, Dt.isK_str_str, Dt.isK_str_list, Dt.isK_str_tuple, Dt.isK_str_dict, Dt.isK_lst_bool, Dt.isK_lst_int, Dt.isK_lst_str, Dt.isK_lst_list, Dt.isK_lst_tuple, Dt.isK_lst_dict, Dt.isK_tup_bool, Dt.isK_tup_int, Dt.isK_tup_str, Dt.isK_tup_list, Dt.isK_tup_tuple, Dt.isK_tup_dict, Dt.isK_dct_bool, Dt.isK_dct_int, Dt.isK_dct_str, Dt.isK_dct_list, Dt.isK_dct_tuple, Dt.isK_dct_dict, Dt.isK_ins_bool, Dt.isK_ins_int, Dt.isK_ins_str, Dt.isK_ins_list, Dt.isK_ins_tuple, Dt.isK_ins_dict, Dt.gN, Dt.gT, Dt.gsCons, Dt.gsNil, Dt.δ0, Dt.frz, Dt.wipeD, Dt.keyD, Dt.De0, List.map_cons, List.map_nil, List.length_cons, List.length_nil, List.replicate_succ, List.replicate_zero, List.cons_append, List.nil_append, List.getElem?_cons_zero, List.getElem?_cons_succ, List.set_cons_zero, List.set_cons_succ, Nat.reduceSub, Nat.reduceAdd, Nat.zero_add, reduceIte, Bool.not_true, Bool.not_false, Bool.false_eq_true, Bool.not_eq_true, Bool.true_eq_false, true_and, and_true, ne_eq, decide_eq_true_eq, Bool.not_eq_eq_eq_not, decide_eq_false_iff_not, Option.isSome_some, Option.isSome_none, Bool.or_eq_true, Bool.and_eq_true, decide_true]
        refine ⟨kr.cls, kr.no2, _, rfl, kr.cls, kr.no2, _, rfl, ⟨2, by decide, hr.dT, hr'.dT⟩, ?_⟩
        rw [eqD_tup .str eqD_ss]
        by_cases q2 : t1 = t2
        · subst q2
          simp only [Dt.wSeq, Dt.wIfS, Dt.wRet, Dt.wSet, Dt.wOwn, Dt.wAsg, Dt.wPar2, Dt.wPar3, Dt.xV, Dt.xO, Dt.wVar, Dt.wC, Dt.wCB, Dt.wCons, Dt.wNil, Dt.wOp, Dt.wTru, Dt.wB, Dt.wNot, Dt.wAnd, Dt.wOr, Dt.wV, Dt.wAndV, Dt.wOrV, Dt.wNotV, Dt.wIf, Dt.wCall, Dt.wLst, Dt.wTup, Dt.wLc, Dt.wForS, Dt.wItems, Dt.wEn, Dt.wZi, Dt.wRg1, Dt.wRg2, Dt.wSl, Dt.oNone, Dt.oSome, Dt.wJoin, Dt.wSplit, Dt.wDisp, Dt.psCons, Dt.psNil, Dt.wBor, Dt.wBorT, Dt.wBorF, Dt.wDrop, Dt.wNeg, Dt.wInt, Dt.wCh, Dt.wStar, Dt.wStA, Dt.gU, Dt.wRev, Dt.wProp, Dt.wFld, Dt.wRaise0, Dt.wRaise1, Dt.wApp, Dt.wSetI, Dt.wPutI, Dt.ownL, Dt.ownM, Dt.wCallD, Dt.wCallK, Dt.mPre, Dt.mSto, Dt.mNil, Dt.asB, Dt.asI, Dt.asS, Dt.asK, Dt.asL, Dt.truW, Dt.addW, Dt.addF, Dt.subW, Dt.iiW, Dt.ciW, Dt.ltW, Dt.leW, Dt.gtW, Dt.geW, Dt.mulW, Dt.fdivW, Dt.modW, Dt.iltW, Dt.iltW.iiB, Dt.ileW, Dt.ixW, Dt.slW, Dt.slF, Dt.lenW, Dt.intW, Dt.absW, Dt.ii2, Dt.listW, Dt.tupleW, Dt.dictW, Dt.inW, Dt.notInW, Dt.isNW, Dt.isNotNW, Dt.isN, Dt.lenOW, Dt.eqW_ii, Dt.neW_ii, Dt.eqW_bb, Dt.eqW_ss, Dt.neW_ss, Dt.isK_non_bool, Dt.isK_non_int, Dt.isK_non_str, Dt.isK_non_list, Dt.isK_non_tuple, Dt.isK_non_dict, Dt.isK_bl_bool, Dt.isK_bl_int, Dt.isK_bl_str, Dt.isK_bl_list, Dt.isK_bl_tuple, Dt.isK_bl_dict, Dt.isK_int_bool, Dt.isK_int_int, Dt.isK_int_str, Dt.isK_int_list, Dt.isK_int_tuple, Dt.isK_int_dict, Dt.isK_str_bool, Dt.isK_str_int, Dt.isK_str_str, Dt.isK_str_list, Dt.isK_str_tuple, Dt.isK_str_dict, Dt.isK_lst_bool, Dt.isK_lst_int, Dt.isK_lst_str, Dt.isK_lst_list, Dt.isK_lst_tuple, Dt.isK_lst_dict, Dt.isK_tup_bool, Dt.isK_tup_int, Dt.isK_tup_str, Dt.isK_tup_list, Dt.isK_tup_tuple, Dt.isK_tup_dict, Dt.isK_dct_bool, Dt.isK_dct_int, Dt.isK_dct_str, Dt.isK_dct_list, Dt.isK_dct_tuple, Dt.isK_dct_dict, Dt.isK_ins_bool, Dt.isK_ins_int, Dt.isK_ins_str, Dt.isK_ins_list, Dt.isK_ins_tuple, Dt.isK_ins_dict, Dt.gN, Dt.gT, Dt.gsCons, Dt.gsNil, Dt.δ0, Dt.frz, Dt.wipeD, Dt.keyD, Dt.De0, List.map_cons, List.map_nil, List.length_cons, List.length_nil, List.replicate_succ, List.replicate_zero, List.cons_append, List.nil_append, List.getElem?_cons_zero, List.getElem?_cons_succ, List.set_cons_zero, List.set_cons_succ, Nat.reduceSub, Nat.reduceAdd, Nat.zero_add, reduceIte, Bool.not_true, Bool.not_false, Bool.false_eq_true, Bool.not_eq_true, Bool.true_eq_false, true_and, and_true, ne_eq, decide_eq_true_eq, Bool.not_eq_eq_eq_not, decide_eq_false_iff_not, Option.isSome_some, Option.isSome_none, Bool.or_eq_true, Bool.and_eq_true, decide_true]
          refine ⟨kr.cls, kr.no3, _, rfl, kr.cls, kr.no3, _, rfl, ⟨2, by decide, hr.dR, hr'.dR⟩, ?_⟩
          rw [eqD_tup rpD eqD_rp]
          simpa using h
        · simp [q2] at h ⊢
          exact h
      · simp [q1] at h ⊢
        exact h
    · simp only [w_Record___eq__, Dt.wSeq, Dt.wIfS, Dt.wRet, Dt.wSet, Dt.wOwn, Dt.wAsg, Dt.wPar2, Dt.wPar3, Dt.xV, Dt.xO, Dt.wVar, Dt.wC, Dt.wCB, Dt.wCons, Dt.wNil, Dt.wOp, Dt.wTru, Dt.wB, Dt.wNot, Dt.wAnd, Dt.wOr, Dt.wV, Dt.wAndV, Dt.wOrV, Dt.wNotV, Dt.wIf, Dt.wCall, Dt.wLst, Dt.wTup, Dt.wLc, Dt.wForS, Dt.wItems, Dt.wEn, Dt.wZi, Dt.wRg1, Dt.wRg2, Dt.wSl, Dt.oNone, Dt.oSome, Dt.wJoin, Dt.wSplit, Dt.wDisp, Dt.psCons, Dt.psNil, Dt.wBor, Dt.wBorT, Dt.wBorF, Dt.wDrop, Dt.wNeg, Dt.wInt, Dt.wCh, Dt.wStar, Dt.wStA, Dt.gU, Dt.wRev, Dt.wProp, Dt.wFld, Dt.wRaise0, Dt.wRaise1, Dt.wApp, Dt.wSetI, Dt.wPutI, Dt.ownL, Dt.ownM, Dt.wCallD, Dt.wCallK, Dt.mPre, Dt.mSto, Dt.mNil, Dt.asB, Dt.asI, Dt.asS, Dt.asK, Dt.asL, Dt.truW, Dt.addW, Dt.addF, Dt.subW, Dt.iiW, Dt.ciW, Dt.ltW, Dt.leW, Dt.gtW, Dt.geW, Dt.mulW, Dt.fdivW, Dt.modW, Dt.iltW, Dt.iltW.iiB, Dt.ileW, Dt.ixW, Dt.slW, Dt.slF, Dt.lenW, Dt.intW, Dt.absW, Dt.ii2, Dt.listW, Dt.tupleW, Dt.dictW, Dt.inW, Dt.notInW, Dt.isNW, Dt.isNotNW, Dt.isN, Dt.lenOW, Dt.eqW_ii, Dt.neW_ii, Dt.eqW_bb, Dt.eqW_ss, Dt.neW_ss, Dt.isK_non_bool, Dt.isK_non_int, Dt.isK_non_str, Dt.isK_non_list, Dt.isK_non_tuple, Dt.isK_non_dict, Dt.isK_bl_bool, Dt.isK_bl_int, Dt.isK_bl_str, Dt.isK_bl_list, Dt.isK_bl_tuple, Dt.isK_bl_dict, Dt.isK_int_bool, Dt.isK_int_int, Dt.isK_int_str, Dt.isK_int_list, Dt.isK_int_tuple, Dt.isK_int_dict, Dt.isK_str_bool, Dt.isK_str_int, Dt.isK_str_str, Dt.isK_str_list, Dt.isK_str_tuple, Dt.isK_str_dict, Dt.isK_lst_bool, Dt.isK_lst_int, Dt.isK_lst_str, Dt.isK_lst_list, Dt.isK_lst_tuple, Dt.isK_lst_dict, Dt.isK_tup_bool, Dt.isK_tup_int, Dt.isK_tup_str, Dt.isK_tup_list, Dt.isK_tup_tuple, Dt.isK_tup_dict, Dt.isK_dct_bool, Dt.isK_dct_int, Dt.isK_dct_str, Dt.isK_dct_list, Dt.isK_dct_tuple, Dt.isK_dct_dict, Dt.isK_ins_bool, Dt.isK_ins_int, Dt.isK_ins_str, Dt.isK_ins_list, Dt.isK_ins_tuple, Dt.isK_ins_dict, Dt.gN, Dt.gT, Dt.gsCons, Dt.gsNil, Dt.δ0, Dt.frz, Dt.wipeD, Dt.keyD, Dt.De0, List.map_cons, List.map_nil, List.length_cons, List.length_nil, List.replicate_succ, List.replicate_zero, List.cons_append, List.nil_append, List.getElem?_cons_zero, List.getElem?_cons_succ, List.set_cons_zero, List.set_cons_succ, Nat.reduceSub, Nat.reduceAdd, Nat.zero_add, reduceIte, Bool.not_true, Bool.not_false, Bool.false_eq_true, Bool.not_eq_true, Bool.true_eq_false, true_and, and_true, ne_eq, decide_eq_true_eq, Bool.not_eq_eq_eq_not, decide_eq_false_iff_not, Option.isSome_some, Option.isSome_none, Bool.or_eq_true, Bool.and_eq_true]
      exact isR_not kr h2 h

end Pk

namespace Pk
open PySem PySem.Spec PyProof.Rows L2 Dt
/-- the draws may go on: B more -/
structure Dr (Z : Res) (st : Addr) (n B : Nat) : Prop where
  z : IsDr Z st
  b : n + B ≤ 2 ^ 40
theorem Dr.le {Z : Res} {st : Addr} {n m B B' : Nat} (h : Dr Z st n B) (hm : m + B' ≤ n + B) : Dr Z st m B' := ⟨h.z, Nat.le_trans hm h.b⟩
theorem take_k {c : Ct} {n : Nat} {st : Addr} {size : Int} {B : Nat} {P : Nat → D → Prop} (hz : Dr c.Z st n (B + 1)) (hs : 0 < size) (hb : size ≤ 1000000) (h : ∀ r : Nat, (r : Int) < size → P (n + 1) (.int r)) : cfTake c n [.obj (.ref st), .int size] P := by
  refine ⟨st, size, hz.z, rfl, hs, ?_, by have := hz.b; omega, fun r h1 h2 => ?_⟩
  · have h1 : size.natAbs ≠ 0 := by omega
    have h2 : size.natAbs.log2 < 20 := (Nat.log2_lt h1).mpr (by omega)
    omega
  · have := h r.toNat (by omega)
    rw [Int.toNat_of_nonneg h1] at this
    exact this
theorem pick_k {c : Ct} {n : Nat} {st : Addr} {d : D} {xs : List D} {B : Nat} {P : Nat → D → Prop} (hz : Dr c.Z st n (B + 1)) (hd : seqD d = some xs) (h0 : xs ≠ []) (hl : xs.length ≤ 1000000) (h : ∀ x ∈ xs, P (n + 1) x) : cfPick c n [.obj (.ref st), d] P :=
  ⟨st, d, xs, hz.z, rfl, seqD_of hd, h0, by omega, by have := hz.b; omega, h⟩
theorem lowB_char : ∀ i : Fin 26, ∃ c, atI ("abcdefghijklmnopqrstuvwxyz" : Str).cps.toList ((i : Nat) : Int) = some c ∧ lowB c = true := by decide +kernel
theorem nameB_one {c : Nat} (h : lowB c = true) : nameB ⟨#[c]⟩ = true := by
  show (decide (1 ≤ 1 ∧ 1 ≤ 8) && [c].all lowB) = true
  simp [h]
/-- letters put together -/
theorem txt_join (sep : Str) (l : List Str) : Txt.join sep l = Str.join sep l := PySem.StrLaws.glued_eq_join sep l
theorem join_chars (cs : List Nat) : Txt.join "" (cs.map fun c => (⟨#[c]⟩ : Str)) = ⟨cs.toArray⟩ := by
  rw [txt_join]
  have key : ∀ cs : List Nat, (Str.join "" (cs.map fun c => (⟨#[c]⟩ : Str))).cps.toList = cs := by
    intro cs
    induction cs with
    | nil => rfl
    | cons a cs ih =>
      cases cs with
      | nil => rfl
      | cons b cs =>
        rw [List.map_cons] at ih
        rw [List.map_cons, List.map_cons]
        show ((#[a] ++ (("" : Str).cps)) ++ (Str.join "" (⟨#[b]⟩ :: cs.map fun c => (⟨#[c]⟩ : Str))).cps).toList = _
        rw [Array.toList_append, Array.toList_append, ih]
        rfl
  have := key cs
  cases h : Str.join "" (cs.map fun c => (⟨#[c]⟩ : Str)) with
  | mk a =>
    rw [h] at this
    cases a
    simp at this
    rw [this]
def w__law_word (K : PySem.W.Frag) : WS := (wSeq (wSet 1 (wSl slW (wSplit (wC (.str "observers things more less none one two ann bob enough a b c d x")) (wC (.str " "))) (oSome (wC (.int 1))) oNone)) (wSeq (wSet 2 (wCall cfTake (wCons (wVar 0) (wCons (wC (.int 28)) wNil)))) (wSeq (wIfS (wB (wOp ltW (wVar 2) (wCB lenW (wCons (wVar 1) wNil)))) (wRet (wOp ixW (wVar 1) (wVar 2))) (fun _ De n δ => De.nx n δ)) (wSeq (wSet 3 (wC (.str "abcdefghijklmnopqrstuvwxyz"))) (wRet (wJoin (wC (.str "")) (wLc (wRg1 (wCons (wCall cfPick (wCons (wVar 0) (wCons (wLst (wCons (wC (.int 1)) (wCons (wC (.int 1)) (wCons (wC (.int 2)) (wCons (wC (.int 3)) (wCons (wC (.int 8)) wNil)))))) wNil))) wNil)) (gN 4) wYes (wOp ixW (wVar 3) (wCall cfTake (wCons (wVar 0) (wCons (wC (.int 26)) wNil)))) [4])))))))
-- slots of _law_word: 0 _law_state, 1 _law_some, 2 _law_way, 3 _law_letters, 4 _law_k
def cf__law_word (K : PySem.W.Frag) : Con := fun c n ds P => match ds with
  | [.obj (.ref st)] => Dr c.Z st n 10 ∧ ∀ m s, n ≤ m → m ≤ n + 10 → nameB s = true → P m (.str s)
  | _ => False
def wordsL : List D := ((Txt.split "observers things more less none one two ann bob enough a b c d x" " ").map D.str)
theorem words_names : ∀ i : Fin 14, ∃ x, atI (cutD wordsL (some 1) none) ((i : Nat) : Int) = some x ∧ ∃ s, x = .str s ∧ nameB s = true := by
  have : ∀ i : Fin 14, (match atI (cutD wordsL (some 1) none) ((i : Nat) : Int) with | some (.str s) => nameB s | _ => false) = true := by decide +kernel
  intro i
  have h := this i
  split at h
  · rename_i s e
    exact ⟨_, e, s, rfl, h⟩
  · cases h
theorem pl__law_word {K : PySem.W.Frag} (c : Ct) (n : Nat) (ds : List D) (P : Nat → D → Prop) (h : cf__law_word K c n ds P) : w__law_word K c (De0 P) n (δ0 ["_law_state", "_law_some", "_law_way", "_law_letters", "_law_k"] ds) := by
  match ds, h with
  | [.obj (.ref st)], ⟨hz, hP⟩ =>
    simp only [w__law_word, Dt.wSeq, Dt.wIfS, Dt.wRet, Dt.wSet, Dt.wOwn, Dt.wAsg, Dt.wPar2, Dt.wPar3, Dt.xV, Dt.xO, Dt.wVar, Dt.wC, Dt.wCB, Dt.wCons, Dt.wNil, Dt.wOp, Dt.wTru, Dt.wB, Dt.wNot, Dt.wAnd, Dt.wOr, Dt.wV, Dt.wAndV, Dt.wOrV, Dt.wNotV, Dt.wIf, Dt.wCall, Dt.wLst, Dt.wTup, Dt.wLc, Dt.wForS, Dt.wItems, Dt.wEn, Dt.wZi, Dt.wRg1, Dt.wRg2, Dt.wSl, Dt.oNone, Dt.oSome, Dt.wJoin, Dt.wSplit, Dt.wDisp, Dt.psCons, Dt.psNil, Dt.wBor, Dt.wBorT, Dt.wBorF, Dt.wDrop, Dt.wNeg, Dt.wInt, Dt.wCh, Dt.wStar, Dt.wStA, Dt.gU, Dt.wRev, Dt.wProp, Dt.wFld, Dt.wRaise0, Dt.wRaise1, Dt.wApp, Dt.wSetI, Dt.wPutI, Dt.ownL, Dt.ownM, Dt.wCallD, Dt.wCallK, Dt.mPre, Dt.mSto, Dt.mNil, Dt.asB, Dt.asI, Dt.asS, Dt.asK, Dt.asL, Dt.truW, Dt.addW, Dt.addF, Dt.subW, Dt.iiW, Dt.ciW, Dt.ltW, Dt.leW, Dt.gtW, Dt.geW, Dt.mulW, Dt.fdivW, Dt.modW, Dt.iltW, Dt.iltW.iiB, Dt.ileW, Dt.ixW, Dt.slW, Dt.slF, Dt.lenW, Dt.intW, Dt.absW, Dt.ii2, Dt.listW, Dt.tupleW, Dt.dictW, Dt.inW, Dt.notInW, Dt.isNW, Dt.isNotNW, Dt.isN, Dt.lenOW, Dt.eqW_ii, Dt.neW_ii, Dt.eqW_bb, Dt.eqW_ss, Dt.neW_ss, Dt.isK_non_bool, Dt.isK_non_int, Dt.isK_non_str, Dt.isK_non_list, Dt.isK_non_tuple, Dt.isK_non_dict, Dt.isK_bl_bool, Dt.isK_bl_int, Dt.isK_bl_str, Dt.isK_bl_list, Dt.isK_bl_tuple, Dt.isK_bl_dict, Dt.isK_int_bool, Dt.isK_int_int, Dt.isK_int_str, Dt.isK_int_list, Dt.isK_int_tuple, Dt.isK_int_dict, Dt.isK_str_bool, Dt.isK_str_int, Dt.isK_str_str, Dt.isK_str_list, Dt.isK_str_tuple, Dt.isK_str_dict, Dt.isK_lst_bool, Dt.isK_lst_int, Dt.isK_lst_str, Dt.isK_lst_list, Dt.isK_lst_tuple, Dt.isK_lst_dict, Dt.isK_tup_bool, Dt.isK_tup_int, Dt.isK_tup_str, Dt.isK_tup_list, Dt.isK_tup_tuple, Dt.isK_tup_dict, Dt.isK_dct_bool, Dt.isK_dct_int, Dt.isK_dct_str, Dt.isK_dct_list, Dt.isK_dct_tuple, Dt.isK_dct_dict, Dt.isK_ins_bool, Dt.isK_ins_int, Dt.isK_ins_str, Dt.isK_ins_list, Dt.isK_ins_tuple, Dt.isK_ins_dict, Dt.gN, Dt.gT, Dt.gsCons, Dt.gsNil, Dt.δ0, Dt.frz, Dt.wipeD, Dt.keyD, Dt.De0, List.map_cons, List.map_nil, List.length_cons, List.length_nil, List.replicate_succ, List.replicate_zero, List.cons_append, List.nil_append, List.getElem?_cons_zero, List.getElem?_cons_succ, List.set_cons_zero, List.set_cons_succ, Nat.reduceSub, Nat.reduceAdd, Nat.zero_add, reduceIte, Bool.not_true, Bool.not_false, Bool.false_eq_true, Bool.not_eq_true, Bool.true_eq_false, true_and, and_true, ne_eq, decide_eq_true_eq, Bool.not_eq_eq_eq_not, decide_eq_false_iff_not, Option.isSome_some, Option.isSome_none, Bool.or_eq_true, Bool.and_eq_true]
    refine ⟨by decide, by decide +kernel, ?_⟩
    refine take_k (B := 9) hz (by decide) (by decide) fun r hr => ?_
    have hl : (cutD wordsL (some 1) none).length = 14 := by decide +kernel
    simp only [Dt.wSeq, Dt.wIfS, Dt.wRet, Dt.wSet, Dt.wOwn, Dt.wAsg, Dt.wPar2, Dt.wPar3, Dt.xV, Dt.xO, Dt.wVar, Dt.wC, Dt.wCB, Dt.wCons, Dt.wNil, Dt.wOp, Dt.wTru, Dt.wB, Dt.wNot, Dt.wAnd, Dt.wOr, Dt.wV, Dt.wAndV, Dt.wOrV, Dt.wNotV, Dt.wIf, Dt.wCall, Dt.wLst, Dt.wTup, Dt.wLc, Dt.wForS, Dt.wItems, Dt.wEn, Dt.wZi, Dt.wRg1, Dt.wRg2, Dt.wSl, Dt.oNone, Dt.oSome, Dt.wJoin, Dt.wSplit, Dt.wDisp, Dt.psCons, Dt.psNil, Dt.wBor, Dt.wBorT, Dt.wBorF, Dt.wDrop, Dt.wNeg, Dt.wInt, Dt.wCh, Dt.wStar, Dt.wStA, Dt.gU, Dt.wRev, Dt.wProp, Dt.wFld, Dt.wRaise0, Dt.wRaise1, Dt.wApp, Dt.wSetI, Dt.wPutI, Dt.ownL, Dt.ownM, Dt.wCallD, Dt.wCallK, Dt.mPre, Dt.mSto, Dt.mNil, Dt.asB, Dt.asI, Dt.asS, Dt.asK, Dt.asL, Dt.truW, Dt.addW, Dt.addF, Dt.subW, Dt.iiW, Dt.ciW, Dt.ltW, Dt.leW, Dt.gtW, Dt.geW, Dt.mulW, Dt.fdivW, Dt.modW, Dt.iltW, Dt.iltW.iiB, Dt.ileW, Dt.ixW, Dt.slW, Dt.slF, Dt.lenW, Dt.intW, Dt.absW, Dt.ii2, Dt.listW, Dt.tupleW, Dt.dictW, Dt.inW, Dt.notInW, Dt.isNW, Dt.isNotNW, Dt.isN, Dt.lenOW, Dt.eqW_ii, Dt.neW_ii, Dt.eqW_bb, Dt.eqW_ss, Dt.neW_ss, Dt.isK_non_bool, Dt.isK_non_int, Dt.isK_non_str, Dt.isK_non_list, Dt.isK_non_tuple, Dt.isK_non_dict, Dt.isK_bl_bool, Dt.isK_bl_int, Dt.isK_bl_str, Dt.isK_bl_list, Dt.isK_bl_tuple, Dt.isK_bl_dict, Dt.isK_int_bool, Dt.isK_int_int, Dt.isK_int_str, Dt.isK_int_list, Dt.isK_int_tuple, Dt.isK_int_dict, Dt.isK_str_bool, Dt.isK_str_int, Dt.isK_str_str, Dt.isK_str_list, Dt.isK_str_tuple, Dt.isK_str_dict, Dt.isK_lst_bool, Dt.isK_lst_int, Dt.isK_lst_str, Dt.isK_lst_list, Dt.isK_lst_tuple, Dt.isK_lst_dict, Dt.isK_tup_bool, Dt.isK_tup_int, Dt.isK_tup_str, Dt.isK_tup_list, Dt.isK_tup_tuple, Dt.isK_tup_dict, Dt.isK_dct_bool, Dt.isK_dct_int, Dt.isK_dct_str, Dt.isK_dct_list, Dt.isK_dct_tuple, Dt.isK_dct_dict, Dt.isK_ins_bool, Dt.isK_ins_int, Dt.isK_ins_str, Dt.isK_ins_list, Dt.isK_ins_tuple, Dt.isK_ins_dict, Dt.gN, Dt.gT, Dt.gsCons, Dt.gsNil, Dt.δ0, Dt.frz, Dt.wipeD, Dt.keyD, Dt.De0, List.map_cons, List.map_nil, List.length_cons, List.length_nil, List.replicate_succ, List.replicate_zero, List.cons_append, List.nil_append, List.getElem?_cons_zero, List.getElem?_cons_succ, List.set_cons_zero, List.set_cons_succ, Nat.reduceSub, Nat.reduceAdd, Nat.zero_add, reduceIte, Bool.not_true, Bool.not_false, Bool.false_eq_true, Bool.not_eq_true, Bool.true_eq_false, true_and, and_true, ne_eq, decide_eq_true_eq, Bool.not_eq_eq_eq_not, decide_eq_false_iff_not, Option.isSome_some, Option.isSome_none, Bool.or_eq_true, Bool.and_eq_true]
    rw [show (List.map D.str (Txt.split "observers things more less none one two ann bob enough a b c d x" " ")) = wordsL from rfl, hl]
    by_cases h14 : r < 14
    · rw [if_pos (by omega)]
      obtain ⟨x, h1, s, rfl, h2⟩ := words_names ⟨r, h14⟩
      exact ⟨_, h1, hP _ s (by omega) (by omega) h2⟩
    · rw [if_neg (by omega)]
      refine ⟨sz (by decide), ?_⟩
      refine pick_k (B := 8) (hz.le (by omega)) rfl (by simp) (by decide) fun x hx => ?_
      have hx : ∃ k : Nat, x = .int k ∧ 1 ≤ k ∧ k ≤ 8 := by
        simp only [List.mem_cons, List.not_mem_nil, or_false] at hx
        rcases hx with rfl | rfl | rfl | rfl | rfl
        · exact ⟨1, rfl, by decide, by decide⟩
        · exact ⟨1, rfl, by decide, by decide⟩
        · exact ⟨2, rfl, by decide, by decide⟩
        · exact ⟨3, rfl, by decide, by decide⟩
        · exact ⟨8, rfl, by decide, by decide⟩
      obtain ⟨k, rfl, k1, k8⟩ := hx
      refine ⟨k, rfl, by omega, by omega, ?_⟩
      have hlen : (rgD 0 k).length = k := by simp [rgD]
      refine ⟨sz (by omega), ?_⟩
      refine loop_draw 1 (n + 10) (fun _ y => ∃ c, y = .str ⟨#[c]⟩ ∧ lowB c = true) _ _ _ (fun d hd m hm Q hQ => ?_) (by omega) fun m ys h1 h2 hy => ?_
      · simp only [Dt.wSeq, Dt.wIfS, Dt.wRet, Dt.wSet, Dt.wOwn, Dt.wAsg, Dt.wPar2, Dt.wPar3, Dt.xV, Dt.xO, Dt.wVar, Dt.wC, Dt.wCB, Dt.wCons, Dt.wNil, Dt.wOp, Dt.wTru, Dt.wB, Dt.wNot, Dt.wAnd, Dt.wOr, Dt.wV, Dt.wAndV, Dt.wOrV, Dt.wNotV, Dt.wIf, Dt.wCall, Dt.wLst, Dt.wTup, Dt.wLc, Dt.wForS, Dt.wItems, Dt.wEn, Dt.wZi, Dt.wRg1, Dt.wRg2, Dt.wSl, Dt.oNone, Dt.oSome, Dt.wJoin, Dt.wSplit, Dt.wDisp, Dt.psCons, Dt.psNil, Dt.wBor, Dt.wBorT, Dt.wBorF, Dt.wDrop, Dt.wNeg, Dt.wInt, Dt.wCh, Dt.wStar, Dt.wStA, Dt.gU, Dt.wRev, Dt.wProp, Dt.wFld, Dt.wRaise0, Dt.wRaise1, Dt.wApp, Dt.wSetI, Dt.wPutI, Dt.ownL, Dt.ownM, Dt.wCallD, Dt.wCallK, Dt.mPre, Dt.mSto, Dt.mNil, Dt.asB, Dt.asI, Dt.asS, Dt.asK, Dt.asL, Dt.truW, Dt.addW, Dt.addF, Dt.subW, Dt.iiW, Dt.ciW, Dt.ltW, Dt.leW, Dt.gtW, Dt.geW, Dt.mulW, Dt.fdivW, Dt.modW, Dt.iltW, Dt.iltW.iiB, Dt.ileW, Dt.ixW, Dt.slW, Dt.slF, Dt.lenW, Dt.intW, Dt.absW, Dt.ii2, Dt.listW, Dt.tupleW, Dt.dictW, Dt.inW, Dt.notInW, Dt.isNW, Dt.isNotNW, Dt.isN, Dt.lenOW, Dt.eqW_ii, Dt.neW_ii, Dt.eqW_bb, Dt.eqW_ss, Dt.neW_ss, Dt.isK_non_bool, Dt.isK_non_int, Dt.isK_non_str, Dt.isK_non_list, Dt.isK_non_tuple, Dt.isK_non_dict, Dt.isK_bl_bool, Dt.isK_bl_int, Dt.isK_bl_str, Dt.isK_bl_list, Dt.isK_bl_tuple, Dt.isK_bl_dict, Dt.isK_int_bool, Dt.isK_int_int, Dt.isK_int_str, Dt.isK_int_list, Dt.isK_int_tuple, Dt.isK_int_dict, Dt.isK_str_bool, Dt.isK_str_int, Dt.isK_str_str, Dt.isK_str_list, Dt.isK_str_tuple, Dt.isK_str_dict, Dt.isK_lst_bool, Dt.isK_lst_int, Dt.isK_lst_str, Dt.isK_lst_list, Dt.isK_lst_tuple, Dt.isK_lst_dict, Dt.isK_tup_bool, Dt.isK_tup_int, Dt.isK_tup_str, Dt.isK_tup_list, Dt.isK_tup_tuple, Dt.isK_tup_dict, Dt.isK_dct_bool, Dt.isK_dct_int, Dt.isK_dct_str, Dt.isK_dct_list, Dt.isK_dct_tuple, Dt.isK_dct_dict, Dt.isK_ins_bool, Dt.isK_ins_int, Dt.isK_ins_str, Dt.isK_ins_list, Dt.isK_ins_tuple, Dt.isK_ins_dict, Dt.gN, Dt.gT, Dt.gsCons, Dt.gsNil, Dt.δ0, Dt.frz, Dt.wipeD, Dt.keyD, Dt.De0, List.map_cons, List.map_nil, List.length_cons, List.length_nil, List.replicate_succ, List.replicate_zero, List.cons_append, List.nil_append, List.getElem?_cons_zero, List.getElem?_cons_succ, List.set_cons_zero, List.set_cons_succ, Nat.reduceSub, Nat.reduceAdd, Nat.zero_add, reduceIte, Bool.not_true, Bool.not_false, Bool.false_eq_true, Bool.not_eq_true, Bool.true_eq_false, true_and, and_true, ne_eq, decide_eq_true_eq, Bool.not_eq_eq_eq_not, decide_eq_false_iff_not, Option.isSome_some, Option.isSome_none, Bool.or_eq_true, Bool.and_eq_true]
        refine take_k (B := 0) (hz.le (by omega)) (by decide) (by decide) fun r hr => ?_
        obtain ⟨ch, e1, e2⟩ := lowB_char ⟨r, by omega⟩
        exact ⟨sz (by decide), ch, e1, hQ _ _ (by omega) (by omega) ⟨ch, rfl, e2⟩⟩
      · have hyl := hy.length
        have hc : ∃ cs : List Nat, ys = cs.map (fun c => .str ⟨#[c]⟩) ∧ ∀ c ∈ cs, lowB c = true := by
          have : ∀ (as ys : List D), All2 (fun _ y => ∃ c, y = D.str ⟨#[c]⟩ ∧ lowB c = true) as ys → ∃ cs : List Nat, ys = cs.map (fun c => .str ⟨#[c]⟩) ∧ ∀ c ∈ cs, lowB c = true := by
            intro as ys h
            induction h with
            | nil => exact ⟨[], rfl, fun c h => nomatch h⟩
            | cons h t ih =>
              obtain ⟨cs, e1, e2⟩ := ih
              obtain ⟨c, rfl, hc⟩ := h
              refine ⟨c :: cs, by rw [e1]; rfl, fun d hd => ?_⟩
              rcases List.mem_cons.mp hd with rfl | hd
              · exact hc
              · exact e2 d hd
          exact this _ _ hy
        obtain ⟨cs, rfl, hcs⟩ := hc
        have e : List.map (fun c => D.str ⟨#[c]⟩) cs = (cs.map fun c => (⟨#[c]⟩ : Str)).map .str := by rw [List.map_map]; rfl
        rw [hlen, List.length_map] at hyl
        simp only [joinW]
        refine ⟨cs.map fun c => (⟨#[c]⟩ : Str), by rw [e, strL_strs], ?_, ?_⟩
        · have : ∀ l : List Nat, ((l.map fun c => (⟨#[c]⟩ : Str)).map (·.length)).sum = l.length := by
            intro l
            induction l with
            | nil => rfl
            | cons a l ih =>
              rw [List.map_cons, List.map_cons, List.sum_cons, ih, List.length_cons]
              show 1 + l.length = _
              omega
          rw [this]
          have : ("" : Str).length = 0 := rfl
          rw [this]
          omega
        · rw [join_chars]
          refine hP _ _ (by omega) (by rw [hlen] at h2; omega) ?_
          unfold nameB
          show (decide (1 ≤ cs.toArray.size ∧ cs.toArray.size ≤ 8) && cs.all lowB) = true
          rw [List.size_toArray, decide_eq_true (by omega), Bool.true_and]
          exact List.all_eq_true.mpr hcs

def w__law_words_b0 (K : PySem.W.Frag) : WS := (wSeq (wSet 5 (wCall (cf__law_word K) (wCons (wVar 0) wNil))) (wSeq (wIfS (wBorT (wB (wOp inW (wVar 5) (wVar 2)))) (wSet 5 (wBor (wOp ixW (wLc (wItems (wVar 3)) (gN 7) (wB (wOp notInW (wVar 7) (wVar 2))) (wVar 7) [7]) (wC (.int 0))))) (fun _ De n δ => De.nx n δ)) (wApp 2 (wVar 5))))
def w__law_words (K : PySem.W.Frag) : WS := (wSeq (wPar2 2 3 (xO (wLst wNil)) (xV (wLc (wItems (wC (.str "abcdefghijklmnopqrstuvwxyz"))) (gN 6) wYes (wOp addW (wC (.str "z")) (wVar 6)) [6]))) (wSeq (wForS (wRg1 (wCons (wVar 1) wNil)) (gN 4) (w__law_words_b0 K)) (wRet (wVar 2))))
-- slots of _law_words: 0 _law_state, 1 _law_many, 2 _law_found, 3 _law_spare, 4 _law_k, 5 _law_word_here, 6 _law_sign, 7 _law_extra
def cf__law_words (K : PySem.W.Frag) : Con := fun c n ds P => match ds with
  | [.obj (.ref st), .int k] => Dr c.Z st n 120 ∧ 0 ≤ k ∧ k ≤ 12 ∧ ∀ (m : Nat) (ns : List Str), n ≤ m → m ≤ n + 120 → (ns.length : Int) = k → ns.Nodup → (∀ s ∈ ns, nameB s = true) → P m (.lst (ns.map .str))
  | _ => False
def spareL : List Str := (("abcdefghijklmnopqrstuvwxyz" : Str).cps.toList.map fun c => ("z" : Str) ++ ⟨#[c]⟩)
theorem spare_nd : spareL.Nodup := by decide +kernel
theorem spare_ok : ∀ s ∈ spareL, nameB s = true := by decide +kernel
theorem spare_len : spareL.length = 26 := by decide +kernel
theorem exists_free {α : Type} [DecidableEq α] : ∀ {l m : List α}, l.Nodup → m.length < l.length → ∃ x ∈ l, x ∉ m := by
  intro l m hl hm
  refine Classical.byContradiction fun hn => ?_
  have hsub : l ⊆ m := fun x hx => Classical.byContradiction fun hxm => hn ⟨x, hx, hxm⟩
  have := hl.length_le_of_subset hsub
  omega
theorem in_strs_not {s : Str} {ns : List Str} {P : D → Prop} (h1 : PyData.strOk s = true) (h2 : ∀ s ∈ ns, PyData.strOk s = true) (hP : P (.bl (!decide (s ∈ ns)))) : notInW (.str s) (.lst (ns.map .str)) P := in_strs (n := 0) (P := fun b => P (.bl (!b))) rfl h1 h2 hP
theorem pl__law_words {K : PySem.W.Frag} (c : Ct) (n : Nat) (ds : List D) (P : Nat → D → Prop) (h : cf__law_words K c n ds P) : w__law_words K c (De0 P) n (δ0 ["_law_state", "_law_many", "_law_found", "_law_spare", "_law_k", "_law_word_here", "_law_sign", "_law_extra"] ds) := by
  match ds, h with
  | [.obj (.ref st), .int k], ⟨hz, hk0, hk, hP⟩ =>
    simp only [w__law_words, Dt.wSeq, Dt.wIfS, Dt.wRet, Dt.wSet, Dt.wOwn, Dt.wAsg, Dt.wPar2, Dt.wPar3, Dt.xV, Dt.xO, Dt.wVar, Dt.wC, Dt.wCB, Dt.wCons, Dt.wNil, Dt.wOp, Dt.wTru, Dt.wB, Dt.wNot, Dt.wAnd, Dt.wOr, Dt.wV, Dt.wAndV, Dt.wOrV, Dt.wNotV, Dt.wIf, Dt.wCall, Dt.wLst, Dt.wTup, Dt.wLc, Dt.wForS, Dt.wItems, Dt.wEn, Dt.wZi, Dt.wRg1, Dt.wRg2, Dt.wSl, Dt.oNone, Dt.oSome, Dt.wJoin, Dt.wSplit, Dt.wDisp, Dt.psCons, Dt.psNil, Dt.wBor, Dt.wBorT, Dt.wBorF, Dt.wDrop, Dt.wNeg, Dt.wInt, Dt.wCh, Dt.wStar, Dt.wStA, Dt.gU, Dt.wRev, Dt.wProp, Dt.wFld, Dt.wRaise0, Dt.wRaise1, Dt.wApp, Dt.wSetI, Dt.wPutI, Dt.ownL, Dt.ownM, Dt.wCallD, Dt.wCallK, Dt.mPre, Dt.mSto, Dt.mNil, Dt.asB, Dt.asI, Dt.asS, Dt.asK, Dt.asL, Dt.truW, Dt.addW, Dt.addF, Dt.subW, Dt.iiW, Dt.ciW, Dt.ltW, Dt.leW, Dt.gtW, Dt.geW, Dt.mulW, Dt.fdivW, Dt.modW, Dt.iltW, Dt.iltW.iiB, Dt.ileW, Dt.ixW, Dt.slW, Dt.slF, Dt.lenW, Dt.intW, Dt.absW, Dt.ii2, Dt.listW, Dt.tupleW, Dt.dictW, Dt.inW, Dt.notInW, Dt.isNW, Dt.isNotNW, Dt.isN, Dt.lenOW, Dt.eqW_ii, Dt.neW_ii, Dt.eqW_bb, Dt.eqW_ss, Dt.neW_ss, Dt.isK_non_bool, Dt.isK_non_int, Dt.isK_non_str, Dt.isK_non_list, Dt.isK_non_tuple, Dt.isK_non_dict, Dt.isK_bl_bool, Dt.isK_bl_int, Dt.isK_bl_str, Dt.isK_bl_list, Dt.isK_bl_tuple, Dt.isK_bl_dict, Dt.isK_int_bool, Dt.isK_int_int, Dt.isK_int_str, Dt.isK_int_list, Dt.isK_int_tuple, Dt.isK_int_dict, Dt.isK_str_bool, Dt.isK_str_int, Dt.isK_str_str, Dt.isK_str_list, Dt.isK_str_tuple, Dt.isK_str_dict, Dt.isK_lst_bool, Dt.isK_lst_int, Dt.isK_lst_str, Dt.isK_lst_list, Dt.isK_lst_tuple, Dt.isK_lst_dict, Dt.isK_tup_bool, Dt.isK_tup_int, Dt.isK_tup_str, Dt.isK_tup_list, Dt.isK_tup_tuple, Dt.isK_tup_dict, Dt.isK_dct_bool, Dt.isK_dct_int, Dt.isK_dct_str, Dt.isK_dct_list, Dt.isK_dct_tuple, Dt.isK_dct_dict, Dt.isK_ins_bool, Dt.isK_ins_int, Dt.isK_ins_str, Dt.isK_ins_list, Dt.isK_ins_tuple, Dt.isK_ins_dict, Dt.gN, Dt.gT, Dt.gsCons, Dt.gsNil, Dt.δ0, Dt.frz, Dt.wipeD, Dt.keyD, Dt.De0, List.map_cons, List.map_nil, List.length_cons, List.length_nil, List.replicate_succ, List.replicate_zero, List.cons_append, List.nil_append, List.getElem?_cons_zero, List.getElem?_cons_succ, List.set_cons_zero, List.set_cons_succ, Nat.reduceSub, Nat.reduceAdd, Nat.zero_add, reduceIte, Bool.not_true, Bool.not_false, Bool.false_eq_true, Bool.not_eq_true, Bool.true_eq_false, true_and, and_true, ne_eq, decide_eq_true_eq, Bool.not_eq_eq_eq_not, decide_eq_false_iff_not, Option.isSome_some, Option.isSome_none, Bool.or_eq_true, Bool.and_eq_true]
    refine ⟨by decide, _, rfl, sz (by decide), ?_⟩
    refine loop_map (fun d => match d with | .str s => .str (("z" : Str) ++ s) | _ => .non) _ _ (fun d hd Q hQ => ?_) ?_
    · obtain ⟨x, hx, rfl⟩ := List.mem_map.mp hd
      exact ⟨by rw [sizeLine_eq]; show 1 + 1 ≤ _; omega, hQ⟩
    · have e : List.map (fun d => match d with | D.str s => D.str (("z" : Str) ++ s) | _ => D.non) (List.map (fun c => D.str ⟨#[c]⟩) ("abcdefghijklmnopqrstuvwxyz" : Str).cps.toList) = spareL.map .str := by
        unfold spareL
        rw [List.map_map, List.map_map]
        rfl
      rw [e]
      refine ⟨k, rfl, by omega, by omega, ?_⟩
      refine for_ind (fun rest n' δ => ∃ (ns : List Str) (s4 s5 : Sl), (rest.length + ns.length : Int) = k ∧ ns.Nodup ∧ (∀ s ∈ ns, nameB s = true) ∧ n ≤ n' ∧ n' ≤ n + 10 * ns.length ∧ δ = [.v (.obj (.ref st)), .v (.int k), .o (.lst (ns.map .str)), .v (.lst (spareL.map .str)), s4, s5, .un, .un]) ?_ ?_ _ _ _ ?_
      · rintro n' δ ⟨ns, s4, s5, h1, h2, h3, h4, h5, rfl⟩
        simp only [List.length_nil] at h1
        simp only [Dt.wSeq, Dt.wIfS, Dt.wRet, Dt.wSet, Dt.wOwn, Dt.wAsg, Dt.wPar2, Dt.wPar3, Dt.xV, Dt.xO, Dt.wVar, Dt.wC, Dt.wCB, Dt.wCons, Dt.wNil, Dt.wOp, Dt.wTru, Dt.wB, Dt.wNot, Dt.wAnd, Dt.wOr, Dt.wV, Dt.wAndV, Dt.wOrV, Dt.wNotV, Dt.wIf, Dt.wCall, Dt.wLst, Dt.wTup, Dt.wLc, Dt.wForS, Dt.wItems, Dt.wEn, Dt.wZi, Dt.wRg1, Dt.wRg2, Dt.wSl, Dt.oNone, Dt.oSome, Dt.wJoin, Dt.wSplit, Dt.wDisp, Dt.psCons, Dt.psNil, Dt.wBor, Dt.wBorT, Dt.wBorF, Dt.wDrop, Dt.wNeg, Dt.wInt, Dt.wCh, Dt.wStar, Dt.wStA, Dt.gU, Dt.wRev, Dt.wProp, Dt.wFld, Dt.wRaise0, Dt.wRaise1, Dt.wApp, Dt.wSetI, Dt.wPutI, Dt.ownL, Dt.ownM, Dt.wCallD, Dt.wCallK, Dt.mPre, Dt.mSto, Dt.mNil, Dt.asB, Dt.asI, Dt.asS, Dt.asK, Dt.asL, Dt.truW, Dt.addW, Dt.addF, Dt.subW, Dt.iiW, Dt.ciW, Dt.ltW, Dt.leW, Dt.gtW, Dt.geW, Dt.mulW, Dt.fdivW, Dt.modW, Dt.iltW, Dt.iltW.iiB, Dt.ileW, Dt.ixW, Dt.slW, Dt.slF, Dt.lenW, Dt.intW, Dt.absW, Dt.ii2, Dt.listW, Dt.tupleW, Dt.dictW, Dt.inW, Dt.notInW, Dt.isNW, Dt.isNotNW, Dt.isN, Dt.lenOW, Dt.eqW_ii, Dt.neW_ii, Dt.eqW_bb, Dt.eqW_ss, Dt.neW_ss, Dt.isK_non_bool, Dt.isK_non_int, Dt.isK_non_str, Dt.isK_non_list, Dt.isK_non_tuple, Dt.isK_non_dict, Dt.isK_bl_bool, Dt.isK_bl_int, Dt.isK_bl_str, Dt.isK_bl_list, Dt.isK_bl_tuple, Dt.isK_bl_dict, Dt.isK_int_bool, Dt.isK_int_int, Dt.isK_int_str, Dt.isK_int_list, Dt.isK_int_tuple, Dt.isK_int_dict, Dt.isK_str_bool, Dt.isK_str_int, Dt.isK_str_str, Dt.isK_str_list, Dt.isK_str_tuple, Dt.isK_str_dict, Dt.isK_lst_bool, Dt.isK_lst_int, Dt.isK_lst_str, Dt.isK_lst_list, Dt.isK_lst_tuple, Dt.isK_lst_dict, Dt.isK_tup_bool, Dt.isK_tup_int, Dt.isK_tup_str, Dt.isK_tup_list, Dt.isK_tup_tuple, Dt.isK_tup_dict, Dt.isK_dct_bool, Dt.isK_dct_int, Dt.isK_dct_str, Dt.isK_dct_list, Dt.isK_dct_tuple, Dt.isK_dct_dict, Dt.isK_ins_bool, Dt.isK_ins_int, Dt.isK_ins_str, Dt.isK_ins_list, Dt.isK_ins_tuple, Dt.isK_ins_dict, Dt.gN, Dt.gT, Dt.gsCons, Dt.gsNil, Dt.δ0, Dt.frz, Dt.wipeD, Dt.keyD, Dt.De0, List.map_cons, List.map_nil, List.length_cons, List.length_nil, List.replicate_succ, List.replicate_zero, List.cons_append, List.nil_append, List.getElem?_cons_zero, List.getElem?_cons_succ, List.set_cons_zero, List.set_cons_succ, Nat.reduceSub, Nat.reduceAdd, Nat.zero_add, reduceIte, Bool.not_true, Bool.not_false, Bool.false_eq_true, Bool.not_eq_true, Bool.true_eq_false, true_and, and_true, ne_eq, decide_eq_true_eq, Bool.not_eq_eq_eq_not, decide_eq_false_iff_not, Option.isSome_some, Option.isSome_none, Bool.or_eq_true, Bool.and_eq_true]
        exact hP n' ns h4 (by omega) (by omega) h2 h3
      · rintro d rest n' δ W ⟨ns, s4, s5, h1, h2, h3, h4, h5, rfl⟩ hW
        rw [List.length_cons] at h1
        have hl : ns.length < 12 := by omega
        have hok : ∀ s ∈ ns, PyData.strOk s = true := fun s hs => nameB_ok (h3 s hs)
        simp only [w__law_words_b0, cf__law_word, Dt.wSeq, Dt.wIfS, Dt.wRet, Dt.wSet, Dt.wOwn, Dt.wAsg, Dt.wPar2, Dt.wPar3, Dt.xV, Dt.xO, Dt.wVar, Dt.wC, Dt.wCB, Dt.wCons, Dt.wNil, Dt.wOp, Dt.wTru, Dt.wB, Dt.wNot, Dt.wAnd, Dt.wOr, Dt.wV, Dt.wAndV, Dt.wOrV, Dt.wNotV, Dt.wIf, Dt.wCall, Dt.wLst, Dt.wTup, Dt.wLc, Dt.wForS, Dt.wItems, Dt.wEn, Dt.wZi, Dt.wRg1, Dt.wRg2, Dt.wSl, Dt.oNone, Dt.oSome, Dt.wJoin, Dt.wSplit, Dt.wDisp, Dt.psCons, Dt.psNil, Dt.wBor, Dt.wBorT, Dt.wBorF, Dt.wDrop, Dt.wNeg, Dt.wInt, Dt.wCh, Dt.wStar, Dt.wStA, Dt.gU, Dt.wRev, Dt.wProp, Dt.wFld, Dt.wRaise0, Dt.wRaise1, Dt.wApp, Dt.wSetI, Dt.wPutI, Dt.ownL, Dt.ownM, Dt.wCallD, Dt.wCallK, Dt.mPre, Dt.mSto, Dt.mNil, Dt.asB, Dt.asI, Dt.asS, Dt.asK, Dt.asL, Dt.truW, Dt.addW, Dt.addF, Dt.subW, Dt.iiW, Dt.ciW, Dt.ltW, Dt.leW, Dt.gtW, Dt.geW, Dt.mulW, Dt.fdivW, Dt.modW, Dt.iltW, Dt.iltW.iiB, Dt.ileW, Dt.ixW, Dt.slW, Dt.slF, Dt.lenW, Dt.intW, Dt.absW, Dt.ii2, Dt.listW, Dt.tupleW, Dt.dictW, Dt.inW, Dt.notInW, Dt.isNW, Dt.isNotNW, Dt.isN, Dt.lenOW, Dt.eqW_ii, Dt.neW_ii, Dt.eqW_bb, Dt.eqW_ss, Dt.neW_ss, Dt.isK_non_bool, Dt.isK_non_int, Dt.isK_non_str, Dt.isK_non_list, Dt.isK_non_tuple, Dt.isK_non_dict, Dt.isK_bl_bool, Dt.isK_bl_int, Dt.isK_bl_str, Dt.isK_bl_list, Dt.isK_bl_tuple, Dt.isK_bl_dict, Dt.isK_int_bool, Dt.isK_int_int, Dt.isK_int_str, Dt.isK_int_list, Dt.isK_int_tuple, Dt.isK_int_dict, Dt.isK_str_bool, Dt.isK_str_int, Dt.isK_str_str, Dt.isK_str_list, Dt.isK_str_tuple, Dt.isK_str_dict, Dt.isK_lst_bool, Dt.isK_lst_int, Dt.isK_lst_str, Dt.isK_lst_list, Dt.isK_lst_tuple, Dt.isK_lst_dict, Dt.isK_tup_bool, Dt.isK_tup_int, Dt.isK_tup_str, Dt.isK_tup_list, Dt.isK_tup_tuple, Dt.isK_tup_dict, Dt.isK_dct_bool, Dt.isK_dct_int, Dt.isK_dct_str, Dt.isK_dct_list, Dt.isK_dct_tuple, Dt.isK_dct_dict, Dt.isK_ins_bool, Dt.isK_ins_int, Dt.isK_ins_str, Dt.isK_ins_list, Dt.isK_ins_tuple, Dt.isK_ins_dict, Dt.gN, Dt.gT, Dt.gsCons, Dt.gsNil, Dt.δ0, Dt.frz, Dt.wipeD, Dt.keyD, Dt.De0, List.map_cons, List.map_nil, List.length_cons, List.length_nil, List.replicate_succ, List.replicate_zero, List.cons_append, List.nil_append, List.getElem?_cons_zero, List.getElem?_cons_succ, List.set_cons_zero, List.set_cons_succ, Nat.reduceSub, Nat.reduceAdd, Nat.zero_add, reduceIte, Bool.not_true, Bool.not_false, Bool.false_eq_true, Bool.not_eq_true, Bool.true_eq_false, true_and, and_true, ne_eq, decide_eq_true_eq, Bool.not_eq_eq_eq_not, decide_eq_false_iff_not, Option.isSome_some, Option.isSome_none, Bool.or_eq_true, Bool.and_eq_true]
        refine ⟨hz.le (by omega), fun m s hm1 hm2 hs => ?_⟩
        have fin : ∀ s : Str, nameB s = true → s ∉ ns → W m [.v (.obj (.ref st)), .v (.int k), .o (.lst (ns.map .str ++ [.str s])), .v (.lst (spareL.map .str)), .v d, .v (.str s), .un, .un] := fun s hs hn => by
          refine hW m _ ⟨ns ++ [s], .v d, .v (.str s), ?_, ?_, fun t ht => ?_, by omega, ?_, by rw [List.map_append]; rfl⟩
          · rw [List.length_append]
            simp
            omega
          · exact List.nodup_append.mpr ⟨h2, by simp, fun a ha b hb => by simp at hb; subst hb; exact fun e => hn (e ▸ ha)⟩
          · rcases List.mem_append.mp ht with ht | ht
            · exact h3 t ht
            · simp at ht
              rw [ht]
              exact hs
          · rw [List.length_append]
            simp
            omega
        refine in_strs (n := 0) (ns := ns) (d := .lst (ns.map .str)) rfl (nameB_ok hs) hok ?_
        by_cases hin : s ∈ ns
        · simp only [hin, Dt.wSeq, Dt.wIfS, Dt.wRet, Dt.wSet, Dt.wOwn, Dt.wAsg, Dt.wPar2, Dt.wPar3, Dt.xV, Dt.xO, Dt.wVar, Dt.wC, Dt.wCB, Dt.wCons, Dt.wNil, Dt.wOp, Dt.wTru, Dt.wB, Dt.wNot, Dt.wAnd, Dt.wOr, Dt.wV, Dt.wAndV, Dt.wOrV, Dt.wNotV, Dt.wIf, Dt.wCall, Dt.wLst, Dt.wTup, Dt.wLc, Dt.wForS, Dt.wItems, Dt.wEn, Dt.wZi, Dt.wRg1, Dt.wRg2, Dt.wSl, Dt.oNone, Dt.oSome, Dt.wJoin, Dt.wSplit, Dt.wDisp, Dt.psCons, Dt.psNil, Dt.wBor, Dt.wBorT, Dt.wBorF, Dt.wDrop, Dt.wNeg, Dt.wInt, Dt.wCh, Dt.wStar, Dt.wStA, Dt.gU, Dt.wRev, Dt.wProp, Dt.wFld, Dt.wRaise0, Dt.wRaise1, Dt.wApp, Dt.wSetI, Dt.wPutI, Dt.ownL, Dt.ownM, Dt.wCallD, Dt.wCallK, Dt.mPre, Dt.mSto, Dt.mNil, Dt.asB, Dt.asI, Dt.asS, Dt.asK, Dt.asL, Dt.truW, Dt.addW, Dt.addF, Dt.subW, Dt.iiW, Dt.ciW, Dt.ltW, Dt.leW, Dt.gtW, Dt.geW, Dt.mulW, Dt.fdivW, Dt.modW, Dt.iltW, Dt.iltW.iiB, Dt.ileW, Dt.ixW, Dt.slW, Dt.slF, Dt.lenW, Dt.intW, Dt.absW, Dt.ii2, Dt.listW, Dt.tupleW, Dt.dictW, Dt.inW, Dt.notInW, Dt.isNW, Dt.isNotNW, Dt.isN, Dt.lenOW, Dt.eqW_ii, Dt.neW_ii, Dt.eqW_bb, Dt.eqW_ss, Dt.neW_ss, Dt.isK_non_bool, Dt.isK_non_int, Dt.isK_non_str, Dt.isK_non_list, Dt.isK_non_tuple, Dt.isK_non_dict, Dt.isK_bl_bool, Dt.isK_bl_int, Dt.isK_bl_str, Dt.isK_bl_list, Dt.isK_bl_tuple, Dt.isK_bl_dict, Dt.isK_int_bool, Dt.isK_int_int, Dt.isK_int_str, Dt.isK_int_list, Dt.isK_int_tuple, Dt.isK_int_dict, Dt.isK_str_bool, Dt.isK_str_int, Dt.isK_str_str, Dt.isK_str_list, Dt.isK_str_tuple, Dt.isK_str_dict, Dt.isK_lst_bool, Dt.isK_lst_int, Dt.isK_lst_str, Dt.isK_lst_list, Dt.isK_lst_tuple, Dt.isK_lst_dict, Dt.isK_tup_bool, Dt.isK_tup_int, Dt.isK_tup_str, Dt.isK_tup_list, Dt.isK_tup_tuple, Dt.isK_tup_dict, Dt.isK_dct_bool, Dt.isK_dct_int, Dt.isK_dct_str, Dt.isK_dct_list, Dt.isK_dct_tuple, Dt.isK_dct_dict, Dt.isK_ins_bool, Dt.isK_ins_int, Dt.isK_ins_str, Dt.isK_ins_list, Dt.isK_ins_tuple, Dt.isK_ins_dict, Dt.gN, Dt.gT, Dt.gsCons, Dt.gsNil, Dt.δ0, Dt.frz, Dt.wipeD, Dt.keyD, Dt.De0, List.map_cons, List.map_nil, List.length_cons, List.length_nil, List.replicate_succ, List.replicate_zero, List.cons_append, List.nil_append, List.getElem?_cons_zero, List.getElem?_cons_succ, List.set_cons_zero, List.set_cons_succ, Nat.reduceSub, Nat.reduceAdd, Nat.zero_add, reduceIte, Bool.not_true, Bool.not_false, Bool.false_eq_true, Bool.not_eq_true, Bool.true_eq_false, true_and, and_true, ne_eq, decide_eq_true_eq, Bool.not_eq_eq_eq_not, decide_eq_false_iff_not, Option.isSome_some, Option.isSome_none, Bool.or_eq_true, Bool.and_eq_true, decide_true]
          refine ⟨_, rfl, by rw [List.length_map, spare_len]; exact sz (by decide), ?_⟩
          refine loop_filter (fun d => match d with | .str s => !decide (s ∈ ns) | _ => false) _ _ (fun x hx Q hQ => ?_) ?_
          · obtain ⟨t, ht, rfl⟩ := List.mem_map.mp hx
            simp only [Dt.wSeq, Dt.wIfS, Dt.wRet, Dt.wSet, Dt.wOwn, Dt.wAsg, Dt.wPar2, Dt.wPar3, Dt.xV, Dt.xO, Dt.wVar, Dt.wC, Dt.wCB, Dt.wCons, Dt.wNil, Dt.wOp, Dt.wTru, Dt.wB, Dt.wNot, Dt.wAnd, Dt.wOr, Dt.wV, Dt.wAndV, Dt.wOrV, Dt.wNotV, Dt.wIf, Dt.wCall, Dt.wLst, Dt.wTup, Dt.wLc, Dt.wForS, Dt.wItems, Dt.wEn, Dt.wZi, Dt.wRg1, Dt.wRg2, Dt.wSl, Dt.oNone, Dt.oSome, Dt.wJoin, Dt.wSplit, Dt.wDisp, Dt.psCons, Dt.psNil, Dt.wBor, Dt.wBorT, Dt.wBorF, Dt.wDrop, Dt.wNeg, Dt.wInt, Dt.wCh, Dt.wStar, Dt.wStA, Dt.gU, Dt.wRev, Dt.wProp, Dt.wFld, Dt.wRaise0, Dt.wRaise1, Dt.wApp, Dt.wSetI, Dt.wPutI, Dt.ownL, Dt.ownM, Dt.wCallD, Dt.wCallK, Dt.mPre, Dt.mSto, Dt.mNil, Dt.asB, Dt.asI, Dt.asS, Dt.asK, Dt.asL, Dt.truW, Dt.addW, Dt.addF, Dt.subW, Dt.iiW, Dt.ciW, Dt.ltW, Dt.leW, Dt.gtW, Dt.geW, Dt.mulW, Dt.fdivW, Dt.modW, Dt.iltW, Dt.iltW.iiB, Dt.ileW, Dt.ixW, Dt.slW, Dt.slF, Dt.lenW, Dt.intW, Dt.absW, Dt.ii2, Dt.listW, Dt.tupleW, Dt.dictW, Dt.inW, Dt.notInW, Dt.isNW, Dt.isNotNW, Dt.isN, Dt.lenOW, Dt.eqW_ii, Dt.neW_ii, Dt.eqW_bb, Dt.eqW_ss, Dt.neW_ss, Dt.isK_non_bool, Dt.isK_non_int, Dt.isK_non_str, Dt.isK_non_list, Dt.isK_non_tuple, Dt.isK_non_dict, Dt.isK_bl_bool, Dt.isK_bl_int, Dt.isK_bl_str, Dt.isK_bl_list, Dt.isK_bl_tuple, Dt.isK_bl_dict, Dt.isK_int_bool, Dt.isK_int_int, Dt.isK_int_str, Dt.isK_int_list, Dt.isK_int_tuple, Dt.isK_int_dict, Dt.isK_str_bool, Dt.isK_str_int, Dt.isK_str_str, Dt.isK_str_list, Dt.isK_str_tuple, Dt.isK_str_dict, Dt.isK_lst_bool, Dt.isK_lst_int, Dt.isK_lst_str, Dt.isK_lst_list, Dt.isK_lst_tuple, Dt.isK_lst_dict, Dt.isK_tup_bool, Dt.isK_tup_int, Dt.isK_tup_str, Dt.isK_tup_list, Dt.isK_tup_tuple, Dt.isK_tup_dict, Dt.isK_dct_bool, Dt.isK_dct_int, Dt.isK_dct_str, Dt.isK_dct_list, Dt.isK_dct_tuple, Dt.isK_dct_dict, Dt.isK_ins_bool, Dt.isK_ins_int, Dt.isK_ins_str, Dt.isK_ins_list, Dt.isK_ins_tuple, Dt.isK_ins_dict, Dt.gN, Dt.gT, Dt.gsCons, Dt.gsNil, Dt.δ0, Dt.frz, Dt.wipeD, Dt.keyD, Dt.De0, List.map_cons, List.map_nil, List.length_cons, List.length_nil, List.replicate_succ, List.replicate_zero, List.cons_append, List.nil_append, List.getElem?_cons_zero, List.getElem?_cons_succ, List.set_cons_zero, List.set_cons_succ, Nat.reduceSub, Nat.reduceAdd, Nat.zero_add, reduceIte, Bool.not_true, Bool.not_false, Bool.false_eq_true, Bool.not_eq_true, Bool.true_eq_false, true_and, and_true, ne_eq, decide_eq_true_eq, Bool.not_eq_eq_eq_not, decide_eq_false_iff_not, Option.isSome_some, Option.isSome_none, Bool.or_eq_true, Bool.and_eq_true]
            refine in_strs (n := 0) (ns := ns) (d := .lst (ns.map .str)) rfl (nameB_ok (spare_ok t ht)) hok ?_
            by_cases z : t ∈ ns <;> simpa [z] using hQ
          · obtain ⟨x, hx1, hx2⟩ := exists_free (m := ns) spare_nd (by rw [spare_len]; omega)
            have hf : (spareL.map D.str).filter (fun d => match d with | .str s => !decide (s ∈ ns) | _ => false) = (spareL.filter fun s => !decide (s ∈ ns)).map .str := by
              rw [List.filter_map]
              rfl
            rw [hf]
            cases q : spareL.filter fun s => !decide (s ∈ ns) with
            | nil =>
              have : x ∈ spareL.filter fun s => !decide (s ∈ ns) := List.mem_filter.mpr ⟨hx1, by simp [hx2]⟩
              rw [q] at this
              cases this
            | cons y ys =>
              have hy : y ∈ spareL.filter fun s => !decide (s ∈ ns) := by rw [q]; exact .head _
              have hy := List.mem_filter.mp hy
              refine ⟨.str y, at0 _ _, rfl, ?_⟩
              exact ⟨by rw [sizeLine_eq, List.length_map]; omega, fin y (spare_ok y hy.1) (by simpa using hy.2)⟩
        · simp only [hin, Dt.wSeq, Dt.wIfS, Dt.wRet, Dt.wSet, Dt.wOwn, Dt.wAsg, Dt.wPar2, Dt.wPar3, Dt.xV, Dt.xO, Dt.wVar, Dt.wC, Dt.wCB, Dt.wCons, Dt.wNil, Dt.wOp, Dt.wTru, Dt.wB, Dt.wNot, Dt.wAnd, Dt.wOr, Dt.wV, Dt.wAndV, Dt.wOrV, Dt.wNotV, Dt.wIf, Dt.wCall, Dt.wLst, Dt.wTup, Dt.wLc, Dt.wForS, Dt.wItems, Dt.wEn, Dt.wZi, Dt.wRg1, Dt.wRg2, Dt.wSl, Dt.oNone, Dt.oSome, Dt.wJoin, Dt.wSplit, Dt.wDisp, Dt.psCons, Dt.psNil, Dt.wBor, Dt.wBorT, Dt.wBorF, Dt.wDrop, Dt.wNeg, Dt.wInt, Dt.wCh, Dt.wStar, Dt.wStA, Dt.gU, Dt.wRev, Dt.wProp, Dt.wFld, Dt.wRaise0, Dt.wRaise1, Dt.wApp, Dt.wSetI, Dt.wPutI, Dt.ownL, Dt.ownM, Dt.wCallD, Dt.wCallK, Dt.mPre, Dt.mSto, Dt.mNil, Dt.asB, Dt.asI, Dt.asS, Dt.asK, Dt.asL, Dt.truW, Dt.addW, Dt.addF, Dt.subW, Dt.iiW, Dt.ciW, Dt.ltW, Dt.leW, Dt.gtW, Dt.geW, Dt.mulW, Dt.fdivW, Dt.modW, Dt.iltW, Dt.iltW.iiB, Dt.ileW, Dt.ixW, Dt.slW, Dt.slF, Dt.lenW, Dt.intW, Dt.absW, Dt.ii2, Dt.listW, Dt.tupleW, Dt.dictW, Dt.inW, Dt.notInW, Dt.isNW, Dt.isNotNW, Dt.isN, Dt.lenOW, Dt.eqW_ii, Dt.neW_ii, Dt.eqW_bb, Dt.eqW_ss, Dt.neW_ss, Dt.isK_non_bool, Dt.isK_non_int, Dt.isK_non_str, Dt.isK_non_list, Dt.isK_non_tuple, Dt.isK_non_dict, Dt.isK_bl_bool, Dt.isK_bl_int, Dt.isK_bl_str, Dt.isK_bl_list, Dt.isK_bl_tuple, Dt.isK_bl_dict, Dt.isK_int_bool, Dt.isK_int_int, Dt.isK_int_str, Dt.isK_int_list, Dt.isK_int_tuple, Dt.isK_int_dict, Dt.isK_str_bool, Dt.isK_str_int, Dt.isK_str_str, Dt.isK_str_list, Dt.isK_str_tuple, Dt.isK_str_dict, Dt.isK_lst_bool, Dt.isK_lst_int, Dt.isK_lst_str, Dt.isK_lst_list, Dt.isK_lst_tuple, Dt.isK_lst_dict, Dt.isK_tup_bool, Dt.isK_tup_int, Dt.isK_tup_str, Dt.isK_tup_list, Dt.isK_tup_tuple, Dt.isK_tup_dict, Dt.isK_dct_bool, Dt.isK_dct_int, Dt.isK_dct_str, Dt.isK_dct_list, Dt.isK_dct_tuple, Dt.isK_dct_dict, Dt.isK_ins_bool, Dt.isK_ins_int, Dt.isK_ins_str, Dt.isK_ins_list, Dt.isK_ins_tuple, Dt.isK_ins_dict, Dt.gN, Dt.gT, Dt.gsCons, Dt.gsNil, Dt.δ0, Dt.frz, Dt.wipeD, Dt.keyD, Dt.De0, List.map_cons, List.map_nil, List.length_cons, List.length_nil, List.replicate_succ, List.replicate_zero, List.cons_append, List.nil_append, List.getElem?_cons_zero, List.getElem?_cons_succ, List.set_cons_zero, List.set_cons_succ, Nat.reduceSub, Nat.reduceAdd, Nat.zero_add, reduceIte, Bool.not_true, Bool.not_false, Bool.false_eq_true, Bool.not_eq_true, Bool.true_eq_false, true_and, and_true, ne_eq, decide_eq_true_eq, Bool.not_eq_eq_eq_not, decide_eq_false_iff_not, Option.isSome_some, Option.isSome_none, Bool.or_eq_true, Bool.and_eq_true, decide_false]
          exact ⟨by rw [sizeLine_eq, List.length_map]; omega, fin s hs hin⟩
      · refine ⟨[], .un, .un, ?_, .nil, (fun s (h : s ∈ []) => nomatch h), by omega, by simp, rfl⟩
        simp [rgD]
        omega
def w__law_report (K : PySem.W.Frag) : WS := (wSeq (wSet 3 (wCall cfTake (wCons (wVar 0) (wCons (wCB lenW (wCons (wVar 2) wNil)) wNil)))) (wSeq (wSet 4 (wOp modW (wOp addW (wOp addW (wVar 3) (wC (.int 1))) (wCall cfTake (wCons (wVar 0) (wCons (wOp subW (wCB lenW (wCons (wVar 2) wNil)) (wC (.int 1))) wNil)))) (wCB lenW (wCons (wVar 2) wNil)))) (wRet (wTup (wCons (wCall cfPick (wCons (wVar 0) (wCons (wVar 1) wNil))) (wCons (wOp ixW (wVar 2) (wVar 3)) (wCons (wOp ixW (wVar 2) (wVar 4)) (wCons (wCall cfPick (wCons (wVar 0) (wCons (wLst (wCons (wC (.str "more")) (wCons (wC (.str "less")) (wCons (wC (.str "none")) wNil)))) wNil))) wNil))))))))
-- slots of _law_report: 0 _law_state, 1 _law_crew, 2 _law_goods, 3 _law_near, 4 _law_far
def cf__law_report (K : PySem.W.Frag) : Con := fun c n ds P => match ds with
  | [.obj (.ref st), .lst o, .lst t] => Dr c.Z st n 4 ∧ ∃ os ts : List Str, o = os.map .str ∧ t = ts.map .str ∧ os ≠ [] ∧ os.length ≤ 100 ∧ 2 ≤ ts.length ∧ ts.length ≤ 100 ∧ ts.Nodup ∧ ∀ p : Rp, p.ok os ts → P (n + 4) (rpD p)
  | _ => False
theorem pl__law_report {K : PySem.W.Frag} (c : Ct) (n : Nat) (ds : List D) (P : Nat → D → Prop) (h : cf__law_report K c n ds P) : w__law_report K c (De0 P) n (δ0 ["_law_state", "_law_crew", "_law_goods", "_law_near", "_law_far"] ds) := by
  match ds, h with
  | [.obj (.ref st), .lst o, .lst t], ⟨hz, os, ts, e1, e2, ho, ho2, ht, ht2, hnd, hP⟩ =>
    subst e1 e2
    simp only [w__law_report, Dt.wSeq, Dt.wIfS, Dt.wRet, Dt.wSet, Dt.wOwn, Dt.wAsg, Dt.wPar2, Dt.wPar3, Dt.xV, Dt.xO, Dt.wVar, Dt.wC, Dt.wCB, Dt.wCons, Dt.wNil, Dt.wOp, Dt.wTru, Dt.wB, Dt.wNot, Dt.wAnd, Dt.wOr, Dt.wV, Dt.wAndV, Dt.wOrV, Dt.wNotV, Dt.wIf, Dt.wCall, Dt.wLst, Dt.wTup, Dt.wLc, Dt.wForS, Dt.wItems, Dt.wEn, Dt.wZi, Dt.wRg1, Dt.wRg2, Dt.wSl, Dt.oNone, Dt.oSome, Dt.wJoin, Dt.wSplit, Dt.wDisp, Dt.psCons, Dt.psNil, Dt.wBor, Dt.wBorT, Dt.wBorF, Dt.wDrop, Dt.wNeg, Dt.wInt, Dt.wCh, Dt.wStar, Dt.wStA, Dt.gU, Dt.wRev, Dt.wProp, Dt.wFld, Dt.wRaise0, Dt.wRaise1, Dt.wApp, Dt.wSetI, Dt.wPutI, Dt.ownL, Dt.ownM, Dt.wCallD, Dt.wCallK, Dt.mPre, Dt.mSto, Dt.mNil, Dt.asB, Dt.asI, Dt.asS, Dt.asK, Dt.asL, Dt.truW, Dt.addW, Dt.addF, Dt.subW, Dt.iiW, Dt.ciW, Dt.ltW, Dt.leW, Dt.gtW, Dt.geW, Dt.mulW, Dt.fdivW, Dt.modW, Dt.iltW, Dt.iltW.iiB, Dt.ileW, Dt.ixW, Dt.slW, Dt.slF, Dt.lenW, Dt.intW, Dt.absW, Dt.ii2, Dt.listW, Dt.tupleW, Dt.dictW, Dt.inW, Dt.notInW, Dt.isNW, Dt.isNotNW, Dt.isN, Dt.lenOW, Dt.eqW_ii, Dt.neW_ii, Dt.eqW_bb, Dt.eqW_ss, Dt.neW_ss, Dt.isK_non_bool, Dt.isK_non_int, Dt.isK_non_str, Dt.isK_non_list, Dt.isK_non_tuple, Dt.isK_non_dict, Dt.isK_bl_bool, Dt.isK_bl_int, Dt.isK_bl_str, Dt.isK_bl_list, Dt.isK_bl_tuple, Dt.isK_bl_dict, Dt.isK_int_bool, Dt.isK_int_int, Dt.isK_int_str, Dt.isK_int_list, Dt.isK_int_tuple, Dt.isK_int_dict, Dt.isK_str_bool, Dt.isK_str_int, Dt.isK_str_str, Dt.isK_str_list, Dt.isK_str_tuple, Dt.isK_str_dict, Dt.isK_lst_bool, Dt.isK_lst_int, Dt.isK_lst_str, Dt.isK_lst_list, Dt.isK_lst_tuple, Dt.isK_lst_dict, Dt.isK_tup_bool, Dt.isK_tup_int, Dt.isK_tup_str, Dt.isK_tup_list, Dt.isK_tup_tuple, Dt.isK_tup_dict, Dt.isK_dct_bool, Dt.isK_dct_int, Dt.isK_dct_str, Dt.isK_dct_list, Dt.isK_dct_tuple, Dt.isK_dct_dict, Dt.isK_ins_bool, Dt.isK_ins_int, Dt.isK_ins_str, Dt.isK_ins_list, Dt.isK_ins_tuple, Dt.isK_ins_dict, Dt.gN, Dt.gT, Dt.gsCons, Dt.gsNil, Dt.δ0, Dt.frz, Dt.wipeD, Dt.keyD, Dt.De0, List.map_cons, List.map_nil, List.length_cons, List.length_nil, List.replicate_succ, List.replicate_zero, List.cons_append, List.nil_append, List.getElem?_cons_zero, List.getElem?_cons_succ, List.set_cons_zero, List.set_cons_succ, Nat.reduceSub, Nat.reduceAdd, Nat.zero_add, reduceIte, Bool.not_true, Bool.not_false, Bool.false_eq_true, Bool.not_eq_true, Bool.true_eq_false, true_and, and_true, ne_eq, decide_eq_true_eq, Bool.not_eq_eq_eq_not, decide_eq_false_iff_not, Option.isSome_some, Option.isSome_none, Bool.or_eq_true, Bool.and_eq_true]
    simp only [List.length_map]
    refine take_k (B := 3) hz (by omega) (by omega) fun r hr => ?_
    simp only [Dt.wSeq, Dt.wIfS, Dt.wRet, Dt.wSet, Dt.wOwn, Dt.wAsg, Dt.wPar2, Dt.wPar3, Dt.xV, Dt.xO, Dt.wVar, Dt.wC, Dt.wCB, Dt.wCons, Dt.wNil, Dt.wOp, Dt.wTru, Dt.wB, Dt.wNot, Dt.wAnd, Dt.wOr, Dt.wV, Dt.wAndV, Dt.wOrV, Dt.wNotV, Dt.wIf, Dt.wCall, Dt.wLst, Dt.wTup, Dt.wLc, Dt.wForS, Dt.wItems, Dt.wEn, Dt.wZi, Dt.wRg1, Dt.wRg2, Dt.wSl, Dt.oNone, Dt.oSome, Dt.wJoin, Dt.wSplit, Dt.wDisp, Dt.psCons, Dt.psNil, Dt.wBor, Dt.wBorT, Dt.wBorF, Dt.wDrop, Dt.wNeg, Dt.wInt, Dt.wCh, Dt.wStar, Dt.wStA, Dt.gU, Dt.wRev, Dt.wProp, Dt.wFld, Dt.wRaise0, Dt.wRaise1, Dt.wApp, Dt.wSetI, Dt.wPutI, Dt.ownL, Dt.ownM, Dt.wCallD, Dt.wCallK, Dt.mPre, Dt.mSto, Dt.mNil, Dt.asB, Dt.asI, Dt.asS, Dt.asK, Dt.asL, Dt.truW, Dt.addW, Dt.addF, Dt.subW, Dt.iiW, Dt.ciW, Dt.ltW, Dt.leW, Dt.gtW, Dt.geW, Dt.mulW, Dt.fdivW, Dt.modW, Dt.iltW, Dt.iltW.iiB, Dt.ileW, Dt.ixW, Dt.slW, Dt.slF, Dt.lenW, Dt.intW, Dt.absW, Dt.ii2, Dt.listW, Dt.tupleW, Dt.dictW, Dt.inW, Dt.notInW, Dt.isNW, Dt.isNotNW, Dt.isN, Dt.lenOW, Dt.eqW_ii, Dt.neW_ii, Dt.eqW_bb, Dt.eqW_ss, Dt.neW_ss, Dt.isK_non_bool, Dt.isK_non_int, Dt.isK_non_str, Dt.isK_non_list, Dt.isK_non_tuple, Dt.isK_non_dict, Dt.isK_bl_bool, Dt.isK_bl_int, Dt.isK_bl_str, Dt.isK_bl_list, Dt.isK_bl_tuple, Dt.isK_bl_dict, Dt.isK_int_bool, Dt.isK_int_int, Dt.isK_int_str, Dt.isK_int_list, Dt.isK_int_tuple, Dt.isK_int_dict, Dt.isK_str_bool, Dt.isK_str_int, Dt.isK_str_str, Dt.isK_str_list, Dt.isK_str_tuple, Dt.isK_str_dict, Dt.isK_lst_bool, Dt.isK_lst_int, Dt.isK_lst_str, Dt.isK_lst_list, Dt.isK_lst_tuple, Dt.isK_lst_dict, Dt.isK_tup_bool, Dt.isK_tup_int, Dt.isK_tup_str, Dt.isK_tup_list, Dt.isK_tup_tuple, Dt.isK_tup_dict, Dt.isK_dct_bool, Dt.isK_dct_int, Dt.isK_dct_str, Dt.isK_dct_list, Dt.isK_dct_tuple, Dt.isK_dct_dict, Dt.isK_ins_bool, Dt.isK_ins_int, Dt.isK_ins_str, Dt.isK_ins_list, Dt.isK_ins_tuple, Dt.isK_ins_dict, Dt.gN, Dt.gT, Dt.gsCons, Dt.gsNil, Dt.δ0, Dt.frz, Dt.wipeD, Dt.keyD, Dt.De0, List.map_cons, List.map_nil, List.length_cons, List.length_nil, List.replicate_succ, List.replicate_zero, List.cons_append, List.nil_append, List.getElem?_cons_zero, List.getElem?_cons_succ, List.set_cons_zero, List.set_cons_succ, Nat.reduceSub, Nat.reduceAdd, Nat.zero_add, reduceIte, Bool.not_true, Bool.not_false, Bool.false_eq_true, Bool.not_eq_true, Bool.true_eq_false, true_and, and_true, ne_eq, decide_eq_true_eq, Bool.not_eq_eq_eq_not, decide_eq_false_iff_not, Option.isSome_some, Option.isSome_none, Bool.or_eq_true, Bool.and_eq_true]
    refine take_k (B := 2) (hz.le (by omega)) (by omega) (by omega) fun r2 hr2 => ?_
    simp only [Dt.wSeq, Dt.wIfS, Dt.wRet, Dt.wSet, Dt.wOwn, Dt.wAsg, Dt.wPar2, Dt.wPar3, Dt.xV, Dt.xO, Dt.wVar, Dt.wC, Dt.wCB, Dt.wCons, Dt.wNil, Dt.wOp, Dt.wTru, Dt.wB, Dt.wNot, Dt.wAnd, Dt.wOr, Dt.wV, Dt.wAndV, Dt.wOrV, Dt.wNotV, Dt.wIf, Dt.wCall, Dt.wLst, Dt.wTup, Dt.wLc, Dt.wForS, Dt.wItems, Dt.wEn, Dt.wZi, Dt.wRg1, Dt.wRg2, Dt.wSl, Dt.oNone, Dt.oSome, Dt.wJoin, Dt.wSplit, Dt.wDisp, Dt.psCons, Dt.psNil, Dt.wBor, Dt.wBorT, Dt.wBorF, Dt.wDrop, Dt.wNeg, Dt.wInt, Dt.wCh, Dt.wStar, Dt.wStA, Dt.gU, Dt.wRev, Dt.wProp, Dt.wFld, Dt.wRaise0, Dt.wRaise1, Dt.wApp, Dt.wSetI, Dt.wPutI, Dt.ownL, Dt.ownM, Dt.wCallD, Dt.wCallK, Dt.mPre, Dt.mSto, Dt.mNil, Dt.asB, Dt.asI, Dt.asS, Dt.asK, Dt.asL, Dt.truW, Dt.addW, Dt.addF, Dt.subW, Dt.iiW, Dt.ciW, Dt.ltW, Dt.leW, Dt.gtW, Dt.geW, Dt.mulW, Dt.fdivW, Dt.modW, Dt.iltW, Dt.iltW.iiB, Dt.ileW, Dt.ixW, Dt.slW, Dt.slF, Dt.lenW, Dt.intW, Dt.absW, Dt.ii2, Dt.listW, Dt.tupleW, Dt.dictW, Dt.inW, Dt.notInW, Dt.isNW, Dt.isNotNW, Dt.isN, Dt.lenOW, Dt.eqW_ii, Dt.neW_ii, Dt.eqW_bb, Dt.eqW_ss, Dt.neW_ss, Dt.isK_non_bool, Dt.isK_non_int, Dt.isK_non_str, Dt.isK_non_list, Dt.isK_non_tuple, Dt.isK_non_dict, Dt.isK_bl_bool, Dt.isK_bl_int, Dt.isK_bl_str, Dt.isK_bl_list, Dt.isK_bl_tuple, Dt.isK_bl_dict, Dt.isK_int_bool, Dt.isK_int_int, Dt.isK_int_str, Dt.isK_int_list, Dt.isK_int_tuple, Dt.isK_int_dict, Dt.isK_str_bool, Dt.isK_str_int, Dt.isK_str_str, Dt.isK_str_list, Dt.isK_str_tuple, Dt.isK_str_dict, Dt.isK_lst_bool, Dt.isK_lst_int, Dt.isK_lst_str, Dt.isK_lst_list, Dt.isK_lst_tuple, Dt.isK_lst_dict, Dt.isK_tup_bool, Dt.isK_tup_int, Dt.isK_tup_str, Dt.isK_tup_list, Dt.isK_tup_tuple, Dt.isK_tup_dict, Dt.isK_dct_bool, Dt.isK_dct_int, Dt.isK_dct_str, Dt.isK_dct_list, Dt.isK_dct_tuple, Dt.isK_dct_dict, Dt.isK_ins_bool, Dt.isK_ins_int, Dt.isK_ins_str, Dt.isK_ins_list, Dt.isK_ins_tuple, Dt.isK_ins_dict, Dt.gN, Dt.gT, Dt.gsCons, Dt.gsNil, Dt.δ0, Dt.frz, Dt.wipeD, Dt.keyD, Dt.De0, List.map_cons, List.map_nil, List.length_cons, List.length_nil, List.replicate_succ, List.replicate_zero, List.cons_append, List.nil_append, List.getElem?_cons_zero, List.getElem?_cons_succ, List.set_cons_zero, List.set_cons_succ, Nat.reduceSub, Nat.reduceAdd, Nat.zero_add, reduceIte, Bool.not_true, Bool.not_false, Bool.false_eq_true, Bool.not_eq_true, Bool.true_eq_false, true_and, and_true, ne_eq, decide_eq_true_eq, Bool.not_eq_eq_eq_not, decide_eq_false_iff_not, Option.isSome_some, Option.isSome_none, Bool.or_eq_true, Bool.and_eq_true]
    refine ⟨by omega, ?_⟩
    have hr' : r < ts.length := by omega
    have ht0 : (0 : Int) < ts.length := by omega
    have hm0 := Int.emod_nonneg ((r : Int) + 1 + r2) (Int.ne_of_gt ht0)
    have hm1 := Int.emod_lt_of_pos ((r : Int) + 1 + r2) ht0
    obtain ⟨f, hf⟩ := Int.eq_ofNat_of_zero_le hm0
    rw [hf] at hm1 ⊢
    have hf1 : f < ts.length := by omega
    have hne : r ≠ f := by
      intro e
      have h3 : ((r : Int) + 1 + r2) % ts.length = r := by rw [hf, e]
      have h4 : (r : Int) % ts.length = r := Int.emod_eq_of_lt (by omega) (by omega)
      have h5 : ((r : Int) + 1 + r2 - r) % ts.length = 0 := Int.emod_eq_emod_iff_emod_sub_eq_zero.mp (by rw [h3, h4])
      have h6 : ((r : Int) + 1 + r2 - r) = 1 + r2 := by omega
      rw [h6, Int.emod_eq_of_lt (by omega) (by omega)] at h5
      omega
    refine pick_k (B := 1) (hz.le (by omega)) rfl (by simpa using ho) (by rw [List.length_map]; omega) fun x hx => ?_
    obtain ⟨ob, hob, rfl⟩ := List.mem_map.mp hx
    refine ⟨.str ts[r], by rw [atN, List.getElem?_map, List.getElem?_eq_getElem hr']; rfl, .str ts[f], by rw [atN, List.getElem?_map, List.getElem?_eq_getElem hf1]; rfl, sz (by decide), ?_⟩
    refine pick_k (B := 0) (hz.le (by omega)) rfl (by simp) (by decide) fun x hx => ?_
    have hw : ∃ w ∈ answersL, x = .str w := by
      simp only [List.mem_cons, List.not_mem_nil, or_false] at hx
      rcases hx with rfl | rfl | rfl
      · exact ⟨"more", by decide, rfl⟩
      · exact ⟨"less", by decide, rfl⟩
      · exact ⟨"none", by decide, rfl⟩
    obtain ⟨w, hw, rfl⟩ := hw
    refine ⟨sz (by decide), hP ⟨ob, ts[r], ts[f], w⟩ ⟨hob, List.getElem_mem _, List.getElem_mem _, fun e => hne ?_, hw⟩⟩
    exact (List.getElem?_inj hr' hnd).mp (by rw [List.getElem?_eq_getElem hr', List.getElem?_eq_getElem hf1]; exact congrArg some e)

def w__law_model (K : PySem.W.Frag) : WS := (wSeq (wSet 4 (wCall (cf__law_words K) (wCons (wVar 0) (wCons (wOp addW (wC (.int 1)) (wCall cfTake (wCons (wVar 0) (wCons (wVar 1) wNil)))) wNil)))) (wSeq (wSet 5 (wCall (cf__law_words K) (wCons (wVar 0) (wCons (wOp addW (wC (.int 2)) (wCall cfTake (wCons (wVar 0) (wCons (wOp subW (wVar 2) (wC (.int 1))) wNil)))) wNil)))) (wSeq (wSet 6 (wLc (wRg1 (wCons (wCall cfTake (wCons (wVar 0) (wCons (wOp addW (wVar 3) (wC (.int 1))) wNil))) wNil)) (gN 7) wYes (wCall (cf__law_report K) (wCons (wVar 0) (wCons (wVar 4) (wCons (wVar 5) wNil)))) [7])) (wRet (wDisp (psCons (wC (.str "crew")) (wVar 4) (psCons (wC (.str "goods")) (wVar 5) (psCons (wC (.str "rows")) (wVar 6) psNil))))))))
-- slots of _law_model: 0 _law_state, 1 _law_most_crew, 2 _law_most_goods, 3 _law_most_rows, 4 _law_crew, 5 _law_goods, 6 _law_rows, 7 _law_k
structure Mo (os ts : List Str) (rs : List Rp) : Prop where
  on : ∀ s ∈ os, nameB s = true
  tn : ∀ s ∈ ts, nameB s = true
  od : os.Nodup
  td : ts.Nodup
  rp : ∀ p ∈ rs, p.ok os ts
abbrev moD (os ts : List Str) (rs : List Rp) : D := .dct [(.inr "crew", .lst (os.map .str)), (.inr "goods", .lst (ts.map .str)), (.inr "rows", .lst (rs.map rpD))]
def cf__law_model (K : PySem.W.Frag) : Con := fun c n ds P => match ds with
  | [.obj (.ref st), .int a, .int b, .int r] => Dr c.Z st n 500 ∧ 1 ≤ a ∧ a ≤ 4 ∧ 2 ≤ b ∧ b ≤ 8 ∧ 0 ≤ r ∧ r ≤ 30 ∧ ∀ (m : Nat) (os ts : List Str) (rs : List Rp), n ≤ m → m ≤ n + 500 → Mo os ts rs → 1 ≤ os.length → (os.length : Int) ≤ a → 2 ≤ ts.length → (ts.length : Int) ≤ b → (rs.length : Int) ≤ r → P m (moD os ts rs)
  | _ => False
theorem all2_rps {os ts : List Str} : ∀ {as ys : List D}, All2 (fun _ y => ∃ p : Rp, y = rpD p ∧ p.ok os ts) as ys → ∃ rs : List Rp, ys = rs.map rpD ∧ rs.length = as.length ∧ ∀ p ∈ rs, p.ok os ts
  | _, _, .nil => ⟨[], rfl, rfl, fun p h => nomatch h⟩
  | _, _, .cons h t => by
    obtain ⟨rs, rfl, e, h2⟩ := all2_rps t
    obtain ⟨p, rfl, hp⟩ := h
    refine ⟨p :: rs, rfl, by simp [e], fun q hq => ?_⟩
    rcases List.mem_cons.mp hq with rfl | hq
    · exact hp
    · exact h2 q hq
theorem pl__law_model {K : PySem.W.Frag} (c : Ct) (n : Nat) (ds : List D) (P : Nat → D → Prop) (h : cf__law_model K c n ds P) : w__law_model K c (De0 P) n (δ0 ["_law_state", "_law_most_crew", "_law_most_goods", "_law_most_rows", "_law_crew", "_law_goods", "_law_rows", "_law_k"] ds) := by
  match ds, h with
  | [.obj (.ref st), .int a, .int b, .int r], ⟨hz, ha, ha2, hb, hb2, hr, hr2, hP⟩ =>
    simp only [w__law_model, cf__law_words, Dt.wSeq, Dt.wIfS, Dt.wRet, Dt.wSet, Dt.wOwn, Dt.wAsg, Dt.wPar2, Dt.wPar3, Dt.xV, Dt.xO, Dt.wVar, Dt.wC, Dt.wCB, Dt.wCons, Dt.wNil, Dt.wOp, Dt.wTru, Dt.wB, Dt.wNot, Dt.wAnd, Dt.wOr, Dt.wV, Dt.wAndV, Dt.wOrV, Dt.wNotV, Dt.wIf, Dt.wCall, Dt.wLst, Dt.wTup, Dt.wLc, Dt.wForS, Dt.wItems, Dt.wEn, Dt.wZi, Dt.wRg1, Dt.wRg2, Dt.wSl, Dt.oNone, Dt.oSome, Dt.wJoin, Dt.wSplit, Dt.wDisp, Dt.psCons, Dt.psNil, Dt.wBor, Dt.wBorT, Dt.wBorF, Dt.wDrop, Dt.wNeg, Dt.wInt, Dt.wCh, Dt.wStar, Dt.wStA, Dt.gU, Dt.wRev, Dt.wProp, Dt.wFld, Dt.wRaise0, Dt.wRaise1, Dt.wApp, Dt.wSetI, Dt.wPutI, Dt.ownL, Dt.ownM, Dt.wCallD, Dt.wCallK, Dt.mPre, Dt.mSto, Dt.mNil, Dt.asB, Dt.asI, Dt.asS, Dt.asK, Dt.asL, Dt.truW, Dt.addW, Dt.addF, Dt.subW, Dt.iiW, Dt.ciW, Dt.ltW, Dt.leW, Dt.gtW, Dt.geW, Dt.mulW, Dt.fdivW, Dt.modW, Dt.iltW, Dt.iltW.iiB, Dt.ileW, Dt.ixW, Dt.slW, Dt.slF, Dt.lenW, Dt.intW, Dt.absW, Dt.ii2, Dt.listW, Dt.tupleW, Dt.dictW, Dt.inW, Dt.notInW, Dt.isNW, Dt.isNotNW, Dt.isN, Dt.lenOW, Dt.eqW_ii, Dt.neW_ii, Dt.eqW_bb, Dt.eqW_ss, Dt.neW_ss, Dt.isK_non_bool, Dt.isK_non_int, Dt.isK_non_str, Dt.isK_non_list, Dt.isK_non_tuple, Dt.isK_non_dict, Dt.isK_bl_bool, Dt.isK_bl_int, Dt.isK_bl_str, Dt.isK_bl_list, Dt.isK_bl_tuple, Dt.isK_bl_dict, Dt.isK_int_bool, Dt.isK_int_int, Dt.isK_int_str, Dt.isK_int_list, Dt.isK_int_tuple, Dt.isK_int_dict, Dt.isK_str_bool, Dt.isK_str_int, Dt.isK_str_str, Dt.isK_str_list, Dt.isK_str_tuple, Dt.isK_str_dict, Dt.isK_lst_bool, Dt.isK_lst_int, Dt.isK_lst_str, Dt.isK_lst_list, Dt.isK_lst_tuple, Dt.isK_lst_dict, Dt.isK_tup_bool, Dt.isK_tup_int, Dt.isK_tup_str, Dt.isK_tup_list, Dt.isK_tup_tuple, Dt.isK_tup_dict, Dt.isK_dct_bool, Dt.isK_dct_int, Dt.isK_dct_str, Dt.isK_dct_list, Dt.isK_dct_tuple, Dt.isK_dct_dict, Dt.isK_ins_bool, Dt.isK_ins_int, Dt.isK_ins_str, Dt.isK_ins_list, Dt.isK_ins_tuple, Dt.isK_ins_dict, Dt.gN, Dt.gT, Dt.gsCons, Dt.gsNil, Dt.δ0, Dt.frz, Dt.wipeD, Dt.keyD, Dt.De0, List.map_cons, List.map_nil, List.length_cons, List.length_nil, List.replicate_succ, List.replicate_zero, List.cons_append, List.nil_append, List.getElem?_cons_zero, List.getElem?_cons_succ, List.set_cons_zero, List.set_cons_succ, Nat.reduceSub, Nat.reduceAdd, Nat.zero_add, reduceIte, Bool.not_true, Bool.not_false, Bool.false_eq_true, Bool.not_eq_true, Bool.true_eq_false, true_and, and_true, ne_eq, decide_eq_true_eq, Bool.not_eq_eq_eq_not, decide_eq_false_iff_not, Option.isSome_some, Option.isSome_none, Bool.or_eq_true, Bool.and_eq_true]
    refine take_k (B := 499) hz (by omega) (by omega) fun x hx => ?_
    simp only [Dt.wSeq, Dt.wIfS, Dt.wRet, Dt.wSet, Dt.wOwn, Dt.wAsg, Dt.wPar2, Dt.wPar3, Dt.xV, Dt.xO, Dt.wVar, Dt.wC, Dt.wCB, Dt.wCons, Dt.wNil, Dt.wOp, Dt.wTru, Dt.wB, Dt.wNot, Dt.wAnd, Dt.wOr, Dt.wV, Dt.wAndV, Dt.wOrV, Dt.wNotV, Dt.wIf, Dt.wCall, Dt.wLst, Dt.wTup, Dt.wLc, Dt.wForS, Dt.wItems, Dt.wEn, Dt.wZi, Dt.wRg1, Dt.wRg2, Dt.wSl, Dt.oNone, Dt.oSome, Dt.wJoin, Dt.wSplit, Dt.wDisp, Dt.psCons, Dt.psNil, Dt.wBor, Dt.wBorT, Dt.wBorF, Dt.wDrop, Dt.wNeg, Dt.wInt, Dt.wCh, Dt.wStar, Dt.wStA, Dt.gU, Dt.wRev, Dt.wProp, Dt.wFld, Dt.wRaise0, Dt.wRaise1, Dt.wApp, Dt.wSetI, Dt.wPutI, Dt.ownL, Dt.ownM, Dt.wCallD, Dt.wCallK, Dt.mPre, Dt.mSto, Dt.mNil, Dt.asB, Dt.asI, Dt.asS, Dt.asK, Dt.asL, Dt.truW, Dt.addW, Dt.addF, Dt.subW, Dt.iiW, Dt.ciW, Dt.ltW, Dt.leW, Dt.gtW, Dt.geW, Dt.mulW, Dt.fdivW, Dt.modW, Dt.iltW, Dt.iltW.iiB, Dt.ileW, Dt.ixW, Dt.slW, Dt.slF, Dt.lenW, Dt.intW, Dt.absW, Dt.ii2, Dt.listW, Dt.tupleW, Dt.dictW, Dt.inW, Dt.notInW, Dt.isNW, Dt.isNotNW, Dt.isN, Dt.lenOW, Dt.eqW_ii, Dt.neW_ii, Dt.eqW_bb, Dt.eqW_ss, Dt.neW_ss, Dt.isK_non_bool, Dt.isK_non_int, Dt.isK_non_str, Dt.isK_non_list, Dt.isK_non_tuple, Dt.isK_non_dict, Dt.isK_bl_bool, Dt.isK_bl_int, Dt.isK_bl_str, Dt.isK_bl_list, Dt.isK_bl_tuple, Dt.isK_bl_dict, Dt.isK_int_bool, Dt.isK_int_int, Dt.isK_int_str, Dt.isK_int_list, Dt.isK_int_tuple, Dt.isK_int_dict, Dt.isK_str_bool, Dt.isK_str_int, Dt.isK_str_str, Dt.isK_str_list, Dt.isK_str_tuple, Dt.isK_str_dict, Dt.isK_lst_bool, Dt.isK_lst_int, Dt.isK_lst_str, Dt.isK_lst_list, Dt.isK_lst_tuple, Dt.isK_lst_dict, Dt.isK_tup_bool, Dt.isK_tup_int, Dt.isK_tup_str, Dt.isK_tup_list, Dt.isK_tup_tuple, Dt.isK_tup_dict, Dt.isK_dct_bool, Dt.isK_dct_int, Dt.isK_dct_str, Dt.isK_dct_list, Dt.isK_dct_tuple, Dt.isK_dct_dict, Dt.isK_ins_bool, Dt.isK_ins_int, Dt.isK_ins_str, Dt.isK_ins_list, Dt.isK_ins_tuple, Dt.isK_ins_dict, Dt.gN, Dt.gT, Dt.gsCons, Dt.gsNil, Dt.δ0, Dt.frz, Dt.wipeD, Dt.keyD, Dt.De0, List.map_cons, List.map_nil, List.length_cons, List.length_nil, List.replicate_succ, List.replicate_zero, List.cons_append, List.nil_append, List.getElem?_cons_zero, List.getElem?_cons_succ, List.set_cons_zero, List.set_cons_succ, Nat.reduceSub, Nat.reduceAdd, Nat.zero_add, reduceIte, Bool.not_true, Bool.not_false, Bool.false_eq_true, Bool.not_eq_true, Bool.true_eq_false, true_and, and_true, ne_eq, decide_eq_true_eq, Bool.not_eq_eq_eq_not, decide_eq_false_iff_not, Option.isSome_some, Option.isSome_none, Bool.or_eq_true, Bool.and_eq_true]
    refine ⟨hz.le (by omega), by omega, by omega, fun m os m1 m2 ol od on => ?_⟩
    refine take_k (B := 370) (hz.le (by omega)) (by omega) (by omega) fun y hy => ?_
    simp only [Dt.wSeq, Dt.wIfS, Dt.wRet, Dt.wSet, Dt.wOwn, Dt.wAsg, Dt.wPar2, Dt.wPar3, Dt.xV, Dt.xO, Dt.wVar, Dt.wC, Dt.wCB, Dt.wCons, Dt.wNil, Dt.wOp, Dt.wTru, Dt.wB, Dt.wNot, Dt.wAnd, Dt.wOr, Dt.wV, Dt.wAndV, Dt.wOrV, Dt.wNotV, Dt.wIf, Dt.wCall, Dt.wLst, Dt.wTup, Dt.wLc, Dt.wForS, Dt.wItems, Dt.wEn, Dt.wZi, Dt.wRg1, Dt.wRg2, Dt.wSl, Dt.oNone, Dt.oSome, Dt.wJoin, Dt.wSplit, Dt.wDisp, Dt.psCons, Dt.psNil, Dt.wBor, Dt.wBorT, Dt.wBorF, Dt.wDrop, Dt.wNeg, Dt.wInt, Dt.wCh, Dt.wStar, Dt.wStA, Dt.gU, Dt.wRev, Dt.wProp, Dt.wFld, Dt.wRaise0, Dt.wRaise1, Dt.wApp, Dt.wSetI, Dt.wPutI, Dt.ownL, Dt.ownM, Dt.wCallD, Dt.wCallK, Dt.mPre, Dt.mSto, Dt.mNil, Dt.asB, Dt.asI, Dt.asS, Dt.asK, Dt.asL, Dt.truW, Dt.addW, Dt.addF, Dt.subW, Dt.iiW, Dt.ciW, Dt.ltW, Dt.leW, Dt.gtW, Dt.geW, Dt.mulW, Dt.fdivW, Dt.modW, Dt.iltW, Dt.iltW.iiB, Dt.ileW, Dt.ixW, Dt.slW, Dt.slF, Dt.lenW, Dt.intW, Dt.absW, Dt.ii2, Dt.listW, Dt.tupleW, Dt.dictW, Dt.inW, Dt.notInW, Dt.isNW, Dt.isNotNW, Dt.isN, Dt.lenOW, Dt.eqW_ii, Dt.neW_ii, Dt.eqW_bb, Dt.eqW_ss, Dt.neW_ss, Dt.isK_non_bool, Dt.isK_non_int, Dt.isK_non_str, Dt.isK_non_list, Dt.isK_non_tuple, Dt.isK_non_dict, Dt.isK_bl_bool, Dt.isK_bl_int, Dt.isK_bl_str, Dt.isK_bl_list, Dt.isK_bl_tuple, Dt.isK_bl_dict, Dt.isK_int_bool, Dt.isK_int_int, Dt.isK_int_str, Dt.isK_int_list, Dt.isK_int_tuple, Dt.isK_int_dict, Dt.isK_str_bool, Dt.isK_str_int, Dt.isK_str_str, Dt.isK_str_list, Dt.isK_str_tuple, Dt.isK_str_dict, Dt.isK_lst_bool, Dt.isK_lst_int, Dt.isK_lst_str, Dt.isK_lst_list, Dt.isK_lst_tuple, Dt.isK_lst_dict, Dt.isK_tup_bool, Dt.isK_tup_int, Dt.isK_tup_str, Dt.isK_tup_list, Dt.isK_tup_tuple, Dt.isK_tup_dict, Dt.isK_dct_bool, Dt.isK_dct_int, Dt.isK_dct_str, Dt.isK_dct_list, Dt.isK_dct_tuple, Dt.isK_dct_dict, Dt.isK_ins_bool, Dt.isK_ins_int, Dt.isK_ins_str, Dt.isK_ins_list, Dt.isK_ins_tuple, Dt.isK_ins_dict, Dt.gN, Dt.gT, Dt.gsCons, Dt.gsNil, Dt.δ0, Dt.frz, Dt.wipeD, Dt.keyD, Dt.De0, List.map_cons, List.map_nil, List.length_cons, List.length_nil, List.replicate_succ, List.replicate_zero, List.cons_append, List.nil_append, List.getElem?_cons_zero, List.getElem?_cons_succ, List.set_cons_zero, List.set_cons_succ, Nat.reduceSub, Nat.reduceAdd, Nat.zero_add, reduceIte, Bool.not_true, Bool.not_false, Bool.false_eq_true, Bool.not_eq_true, Bool.true_eq_false, true_and, and_true, ne_eq, decide_eq_true_eq, Bool.not_eq_eq_eq_not, decide_eq_false_iff_not, Option.isSome_some, Option.isSome_none, Bool.or_eq_true, Bool.and_eq_true]
    refine ⟨hz.le (by omega), by omega, by omega, fun m' ts m3 m4 tl td tn => ?_⟩
    refine take_k (B := 240) (hz.le (by omega)) (by omega) (by omega) fun k hk => ?_
    refine ⟨k, rfl, by omega, by omega, ?_⟩
    have hlen : (rgD 0 k).length = k := by simp [rgD]
    refine ⟨sz (by omega), ?_⟩
    refine loop_draw 4 (n + 500) (fun _ y => ∃ p : Rp, y = rpD p ∧ p.ok os ts) _ _ _ (fun d hd m hm Q hQ => ?_) (by omega) fun m2 ys h1 h2 hy => ?_
    · simp only [cf__law_report, Dt.wSeq, Dt.wIfS, Dt.wRet, Dt.wSet, Dt.wOwn, Dt.wAsg, Dt.wPar2, Dt.wPar3, Dt.xV, Dt.xO, Dt.wVar, Dt.wC, Dt.wCB, Dt.wCons, Dt.wNil, Dt.wOp, Dt.wTru, Dt.wB, Dt.wNot, Dt.wAnd, Dt.wOr, Dt.wV, Dt.wAndV, Dt.wOrV, Dt.wNotV, Dt.wIf, Dt.wCall, Dt.wLst, Dt.wTup, Dt.wLc, Dt.wForS, Dt.wItems, Dt.wEn, Dt.wZi, Dt.wRg1, Dt.wRg2, Dt.wSl, Dt.oNone, Dt.oSome, Dt.wJoin, Dt.wSplit, Dt.wDisp, Dt.psCons, Dt.psNil, Dt.wBor, Dt.wBorT, Dt.wBorF, Dt.wDrop, Dt.wNeg, Dt.wInt, Dt.wCh, Dt.wStar, Dt.wStA, Dt.gU, Dt.wRev, Dt.wProp, Dt.wFld, Dt.wRaise0, Dt.wRaise1, Dt.wApp, Dt.wSetI, Dt.wPutI, Dt.ownL, Dt.ownM, Dt.wCallD, Dt.wCallK, Dt.mPre, Dt.mSto, Dt.mNil, Dt.asB, Dt.asI, Dt.asS, Dt.asK, Dt.asL, Dt.truW, Dt.addW, Dt.addF, Dt.subW, Dt.iiW, Dt.ciW, Dt.ltW, Dt.leW, Dt.gtW, Dt.geW, Dt.mulW, Dt.fdivW, Dt.modW, Dt.iltW, Dt.iltW.iiB, Dt.ileW, Dt.ixW, Dt.slW, Dt.slF, Dt.lenW, Dt.intW, Dt.absW, Dt.ii2, Dt.listW, Dt.tupleW, Dt.dictW, Dt.inW, Dt.notInW, Dt.isNW, Dt.isNotNW, Dt.isN, Dt.lenOW, Dt.eqW_ii, Dt.neW_ii, Dt.eqW_bb, Dt.eqW_ss, Dt.neW_ss, Dt.isK_non_bool, Dt.isK_non_int, Dt.isK_non_str, Dt.isK_non_list, Dt.isK_non_tuple, Dt.isK_non_dict, Dt.isK_bl_bool, Dt.isK_bl_int, Dt.isK_bl_str, Dt.isK_bl_list, Dt.isK_bl_tuple, Dt.isK_bl_dict, Dt.isK_int_bool, Dt.isK_int_int, Dt.isK_int_str, Dt.isK_int_list, Dt.isK_int_tuple, Dt.isK_int_dict, Dt.isK_str_bool, Dt.isK_str_int, Dt.isK_str_str, Dt.isK_str_list, Dt.isK_str_tuple, Dt.isK_str_dict, Dt.isK_lst_bool, Dt.isK_lst_int, Dt.isK_lst_str, Dt.isK_lst_list, Dt.isK_lst_tuple, Dt.isK_lst_dict, Dt.isK_tup_bool, Dt.isK_tup_int, Dt.isK_tup_str, Dt.isK_tup_list, Dt.isK_tup_tuple, Dt.isK_tup_dict, Dt.isK_dct_bool, Dt.isK_dct_int, Dt.isK_dct_str, Dt.isK_dct_list, Dt.isK_dct_tuple, Dt.isK_dct_dict, Dt.isK_ins_bool, Dt.isK_ins_int, Dt.isK_ins_str, Dt.isK_ins_list, Dt.isK_ins_tuple, Dt.isK_ins_dict, Dt.gN, Dt.gT, Dt.gsCons, Dt.gsNil, Dt.δ0, Dt.frz, Dt.wipeD, Dt.keyD, Dt.De0, List.map_cons, List.map_nil, List.length_cons, List.length_nil, List.replicate_succ, List.replicate_zero, List.cons_append, List.nil_append, List.getElem?_cons_zero, List.getElem?_cons_succ, List.set_cons_zero, List.set_cons_succ, Nat.reduceSub, Nat.reduceAdd, Nat.zero_add, reduceIte, Bool.not_true, Bool.not_false, Bool.false_eq_true, Bool.not_eq_true, Bool.true_eq_false, true_and, and_true, ne_eq, decide_eq_true_eq, Bool.not_eq_eq_eq_not, decide_eq_false_iff_not, Option.isSome_some, Option.isSome_none, Bool.or_eq_true, Bool.and_eq_true]
      exact ⟨hz.le (by omega), os, ts, rfl, rfl, by intro e; rw [e] at ol; simp at ol; omega, by omega, by omega, by omega, td, fun p hp => hQ _ _ (by omega) (by omega) ⟨p, rfl, hp⟩⟩
    · obtain ⟨rs, rfl, hl, hp⟩ := all2_rps hy
      refine ⟨by decide, ?_⟩
      exact hP m2 os ts rs (by omega) (by omega) ⟨on, tn, od, td, hp⟩ (by omega) (by omega) (by omega) (by omega) (by omega)
def w__law_record (K : PySem.W.Frag) : WS := (wRet (wCall (cf_Record K) (wCons (wOp ixW (wVar 0) (wC (.str "crew"))) (wCons (wOp ixW (wVar 0) (wC (.str "goods"))) (wCons (wOp ixW (wVar 0) (wC (.str "rows"))) wNil)))))
-- slots of _law_record: 0 _law_model_here
structure MoB (os ts : List Str) (rs : List Rp) : Prop extends Mo os ts rs where
  o1 : 1 ≤ os.length
  o4 : os.length ≤ 4
  t2 : 2 ≤ ts.length
  t8 : ts.length ≤ 8
  r30 : rs.length ≤ 30
theorem strsD_map : ∀ ns : List Str, strsD (ns.map .str) = ns
  | [] => rfl
  | s :: ns => by rw [List.map_cons, strsD, strsD_map ns]
theorem areNm_of {d : D} {ns : List Str} {a b : Int} (hd : seqD d = some (ns.map .str)) (hn : ∀ s ∈ ns, nameB s = true) (nd : ns.Nodup) (ha : a ≤ ns.length) (hb : (ns.length : Int) ≤ b) : areNm d a b = true := by
  unfold areNm
  rw [hd]
  simp only [List.length_map, strsD_map]
  rw [decide_eq_true ⟨ha, hb⟩, decide_eq_true nd, Bool.true_and, Bool.and_true, List.all_eq_true]
  intro x hx
  obtain ⟨s, hs, rfl⟩ := List.mem_map.mp hx
  exact hn s hs
theorem nms_of {d : D} {ns : List Str} (hd : seqD d = some (ns.map .str)) : nms d = ns := by
  unfold nms
  rw [hd]
  exact strsD_map ns
theorem av_name {K : PySem.W.Frag} {s : Str} (h : nameB s = true) : AV1 K (.str s) := by
  refine ⟨nameB_ok h, ?_⟩
  unfold nameB at h
  have := of_decide_eq_true (Bool.and_eq_true_iff.mp h).1
  omega
theorem nameB_len {s : Str} (h : nameB s = true) : s.length ≤ 8 := (of_decide_eq_true (Bool.and_eq_true_iff.mp h).1).2
theorem seqD_av {K : PySem.W.Frag} {d : D} {xs : List D} (h : seqD d = some xs) : AV1 K d := by
  rcases seqD_of h with rfl | rfl <;> trivial
theorem cmpL_of {K : PySem.W.Frag} {d : D} {ns : List Str} (hd : seqD d = some (ns.map .str)) (hn : ∀ s ∈ ns, nameB s = true) (hl : ns.length ≤ 1000000) : cmpL K d := by
  refine ⟨seqD_av hd, fun xs h => ?_⟩
  rw [hd] at h
  cases h
  refine ⟨by rw [List.length_map]; exact hl, fun x hx => ?_, depL_strs fun s hs => nameB_ok (hn s hs)⟩
  obtain ⟨s, hs, rfl⟩ := List.mem_map.mp hx
  exact av_name (hn s hs)
theorem ans_av {K : PySem.W.Frag} {w : Str} (h : w ∈ answersL) : AV1 K (.str w) := by
  have : ∀ w ∈ answersL, PyData.strOk w = true ∧ w.length ≤ 1000000 := by decide +kernel
  exact this w h
theorem cmpR_of {K : PySem.W.Frag} {d : D} {os ts : List Str} {rs : List Rp} (hd : seqD d = some (rs.map rpD)) (m : Mo os ts rs) : cmpR K d := by
  refine ⟨seqD_av hd, fun xs h => ?_⟩
  rw [hd] at h
  cases h
  intro x hx
  obtain ⟨p, hp, rfl⟩ := List.mem_map.mp hx
  refine ⟨trivial, fun ys e y hy => ?_⟩
  cases e
  have k := m.rp p hp
  simp only [List.mem_cons, List.not_mem_nil, or_false] at hy
  rcases hy with rfl | rfl | rfl | rfl
  · exact av_name (m.on _ k.o)
  · exact av_name (m.tn _ k.a)
  · exact av_name (m.tn _ k.b)
  · exact ans_av k.w
theorem recOf_ok {o t r : D} {os ts : List Str} {rs : List Rp} (ho : seqD o = some (os.map .str)) (ht : seqD t = some (ts.map .str)) (hr : seqD r = some (rs.map rpD)) (m : MoB os ts rs) : recOf o t r = .ok ⟨sortS os, sortS ts, rs⟩ := by
  unfold recOf
  have := m.o1
  have := m.o4
  have := m.t2
  have := m.t8
  rw [areNm_of (a := 1) (b := 4) ho m.on m.od (by omega) (by omega), areNm_of (a := 2) (b := 8) ht m.tn m.td (by omega) (by omega), hr, nms_of ho, nms_of ht]
  have e1 : (rs.map rpD).findIdx? (fun x => !isRp os ts x) = none := List.findIdx?_eq_none_iff.mpr fun x hx => by
    obtain ⟨p, hp, rfl⟩ := List.mem_map.mp hx
    rw [isRp_ok (m.rp p hp)]
    rfl
  have e2 : (rs.map rpD).filterMap rpOf = rs := by
    rw [List.filterMap_map]
    show rs.filterMap (fun p => rpOf (rpD p)) = rs
    simp only [rpOf_rpD, List.filterMap_some]
  simp only [Bool.and_self, reduceIte, List.length_map, if_pos m.r30, e1, e2]
theorem cfRec_ok {K : PySem.W.Frag} {c : Ct} {n : Nat} {P : Nat → D → Prop} {o t r : D} {os ts : List Str} {rs : List Rp} (ho : seqD o = some (os.map .str)) (ht : seqD t = some (ts.map .str)) (hr : seqD r = some (rs.map rpD)) (m : MoB os ts rs) (hP : P n (recD K ⟨sortS os, sortS ts, rs⟩)) : cf_Record K c n [o, t, r] P := by
  have := m.o4
  have := m.t8
  refine ⟨cmpL_of ho m.on (by omega), cmpL_of ht m.tn (by omega), cmpR_of hr m.toMo, ?_⟩
  rw [recOf_ok ho ht hr m]
  exact hP
def cf__law_record (K : PySem.W.Frag) : Con := fun c n ds P => match ds with
  | [d] => ∃ os ts rs, d = moD os ts rs ∧ MoB os ts rs ∧ P n (recD K ⟨sortS os, sortS ts, rs⟩)
  | _ => False
theorem pl__law_record {K : PySem.W.Frag} (c : Ct) (n : Nat) (ds : List D) (P : Nat → D → Prop) (h : cf__law_record K c n ds P) : w__law_record K c (De0 P) n (δ0 ["_law_model_here"] ds) := by
  match ds, h with
  | [d], ⟨os, ts, rs, e, m, hP⟩ =>
    subst e
    simp only [w__law_record, moD, Dt.wSeq, Dt.wIfS, Dt.wRet, Dt.wSet, Dt.wOwn, Dt.wAsg, Dt.wPar2, Dt.wPar3, Dt.xV, Dt.xO, Dt.wVar, Dt.wC, Dt.wCB, Dt.wCons, Dt.wNil, Dt.wOp, Dt.wTru, Dt.wB, Dt.wNot, Dt.wAnd, Dt.wOr, Dt.wV, Dt.wAndV, Dt.wOrV, Dt.wNotV, Dt.wIf, Dt.wCall, Dt.wLst, Dt.wTup, Dt.wLc, Dt.wForS, Dt.wItems, Dt.wEn, Dt.wZi, Dt.wRg1, Dt.wRg2, Dt.wSl, Dt.oNone, Dt.oSome, Dt.wJoin, Dt.wSplit, Dt.wDisp, Dt.psCons, Dt.psNil, Dt.wBor, Dt.wBorT, Dt.wBorF, Dt.wDrop, Dt.wNeg, Dt.wInt, Dt.wCh, Dt.wStar, Dt.wStA, Dt.gU, Dt.wRev, Dt.wProp, Dt.wFld, Dt.wRaise0, Dt.wRaise1, Dt.wApp, Dt.wSetI, Dt.wPutI, Dt.ownL, Dt.ownM, Dt.wCallD, Dt.wCallK, Dt.mPre, Dt.mSto, Dt.mNil, Dt.asB, Dt.asI, Dt.asS, Dt.asK, Dt.asL, Dt.truW, Dt.addW, Dt.addF, Dt.subW, Dt.iiW, Dt.ciW, Dt.ltW, Dt.leW, Dt.gtW, Dt.geW, Dt.mulW, Dt.fdivW, Dt.modW, Dt.iltW, Dt.iltW.iiB, Dt.ileW, Dt.ixW, Dt.slW, Dt.slF, Dt.lenW, Dt.intW, Dt.absW, Dt.ii2, Dt.listW, Dt.tupleW, Dt.dictW, Dt.inW, Dt.notInW, Dt.isNW, Dt.isNotNW, Dt.isN, Dt.lenOW, Dt.eqW_ii, Dt.neW_ii, Dt.eqW_bb, Dt.eqW_ss, Dt.neW_ss, Dt.isK_non_bool, Dt.isK_non_int, Dt.isK_non_str, Dt.isK_non_list, Dt.isK_non_tuple, Dt.isK_non_dict, Dt.isK_bl_bool, Dt.isK_bl_int, Dt.isK_bl_str, Dt.isK_bl_list, Dt.isK_bl_tuple, Dt.isK_bl_dict, Dt.isK_int_bool, Dt.isK_int_int, Dt.isK_int_str, Dt.isK_int_list, Dt.isK_int_tuple, Dt.isK_int_dict, Dt.isK_str_bool, Dt.isK_str_int, Dt.isK_str_str, Dt.isK_str_list, Dt.isK_str_tuple, Dt.isK_str_dict, Dt.isK_lst_bool, Dt.isK_lst_int, Dt.isK_lst_str, Dt.isK_lst_list, Dt.isK_lst_tuple, Dt.isK_lst_dict, Dt.isK_tup_bool, Dt.isK_tup_int, Dt.isK_tup_str, Dt.isK_tup_list, Dt.isK_tup_tuple, Dt.isK_tup_dict, Dt.isK_dct_bool, Dt.isK_dct_int, Dt.isK_dct_str, Dt.isK_dct_list, Dt.isK_dct_tuple, Dt.isK_dct_dict, Dt.isK_ins_bool, Dt.isK_ins_int, Dt.isK_ins_str, Dt.isK_ins_list, Dt.isK_ins_tuple, Dt.isK_ins_dict, Dt.gN, Dt.gT, Dt.gsCons, Dt.gsNil, Dt.δ0, Dt.frz, Dt.wipeD, Dt.keyD, Dt.De0, List.map_cons, List.map_nil, List.length_cons, List.length_nil, List.replicate_succ, List.replicate_zero, List.cons_append, List.nil_append, List.getElem?_cons_zero, List.getElem?_cons_succ, List.set_cons_zero, List.set_cons_succ, Nat.reduceSub, Nat.reduceAdd, Nat.zero_add, reduceIte, Bool.not_true, Bool.not_false, Bool.false_eq_true, Bool.not_eq_true, Bool.true_eq_false, true_and, and_true, ne_eq, decide_eq_true_eq, Bool.not_eq_eq_eq_not, decide_eq_false_iff_not, Option.isSome_some, Option.isSome_none, Bool.or_eq_true, Bool.and_eq_true]
    exact ⟨_, _, rfl, rfl, _, _, rfl, rfl, _, _, rfl, rfl, cfRec_ok rfl rfl rfl m hP⟩
theorem sortS_congr {xs ys : List Str} (h : xs.Perm ys) : sortS xs = sortS ys := sortS_eq ((sortS_perm xs).trans h) (sortS_pw xs)
theorem sortS_sortS (xs : List Str) : sortS (sortS xs) = sortS xs := sortS_congr (sortS_perm xs)
theorem MoB.tx {os ts : List Str} {rs : List Rp} (m : MoB os ts rs) : Rec.tx ⟨sortS os, sortS ts, rs⟩ where
  o := fun s hs => nameB_ok (m.on s ((sortS_perm os).mem_iff.mp hs))
  t := fun s hs => nameB_ok (m.tn s ((sortS_perm ts).mem_iff.mp hs))
  p := fun p hp => by
    have k := m.rp p hp
    exact ⟨nameB_ok (m.on _ k.o), nameB_ok (m.tn _ k.a), nameB_ok (m.tn _ k.b), (ans_av (K := []) k.w).1⟩
theorem own_rec {K : PySem.W.Frag} (kr : KRec K) {r r' : Rec} (h : r.tx) (h' : r'.tx) {no : Bool} {f : W2} {P : D → Prop} (hP : P (.bl (decide (r = r') != no))) : ownEW K (He.ga K "Record") (cf_eq K) no f (recD K r) (recD K r') P :=
  ⟨rfl, ⟨_, ⟨rfl, kr.ins.ci⟩, kr.nf1⟩, fun c n => ⟨r, h, rfl, .inl ⟨r', h', rfl, rfl, hP⟩⟩⟩
theorem own_oth {K : PySem.W.Frag} (kr : KRec K) {r : Rec} (h : r.tx) {d : D} (hd : (tyN d).isSome = true) {no : Bool} {f : W2} {P : D → Prop} (hP : P (.bl (false != no))) : ownEW K (He.ga K "Record") (cf_eq K) no f (recD K r) d P := by
  obtain ⟨t, ht⟩ := Option.isSome_iff_exists.mp hd
  obtain ⟨T, hm⟩ := tyN_D (K := K) ht
  exact ⟨rfl, ⟨_, T, kr.nf0 t hm⟩, fun c n => ⟨r, h, rfl, .inr ⟨hd, rfl, hP⟩⟩⟩
theorem tk_strs {n : Nat} {ns : List Str} (h : ∀ s ∈ ns, nameB s = true) : tk (n + 1) (.tup (ns.map .str)) = true := tkL_map fun s hs => nameB_ok (h s hs)
theorem tw_strs {ns : List Str} (h : ∀ s ∈ ns, nameB s = true) : twL (ns.map .str) ≤ 84 * ns.length := twL_map fun s hs => by
  have := nameB_len (h s hs)
  simp only [tw]
  omega
theorem rp_tk {os ts : List Str} {rs : List Rp} (m : Mo os ts rs) {n : Nat} {p : Rp} (hp : p ∈ rs) : tk (n + 1) (rpD p) = true ∧ tw (rpD p) ≤ 400 := by
  have k := m.rp p hp
  have h1 := m.on _ k.o
  have h2 := m.tn _ k.a
  have h3 := m.tn _ k.b
  have l1 := nameB_len h1
  have l2 := nameB_len h2
  have l3 := nameB_len h3
  have l4 : p.w.length ≤ 4 := by
    have : ∀ w ∈ answersL, w.length ≤ 4 := by decide +kernel
    exact this _ k.w
  refine ⟨by simp [rpD, tk, tkL, nameB_ok h1, nameB_ok h2, nameB_ok h3, (ans_av (K := []) k.w).1], ?_⟩
  simp only [rpD, tw, twL]
  omega
theorem tk_rps {os ts : List Str} {rs : List Rp} (m : Mo os ts rs) {n : Nat} : tk (n + 2) (.tup (rs.map rpD)) = true := tkL_map fun p hp => (rp_tk m hp).1
theorem tw_rps {os ts : List Str} {rs : List Rp} (m : Mo os ts rs) : twL (rs.map rpD) ≤ 402 * rs.length := twL_map fun p hp => (rp_tk (n := 0) m hp).2
theorem imm_strs : ∀ ns : List Str, imm.immL (ns.map .str) = true
  | [] => by simp [imm.immL]
  | s :: ns => by
    rw [List.map_cons, imm.immL, imm_strs ns]
    simp [imm]
theorem imm_rps : ∀ rs : List Rp, imm.immL (rs.map rpD) = true
  | [] => by simp [imm.immL]
  | p :: rs => by
    rw [List.map_cons, imm.immL, imm_rps rs]
    simp [imm, imm.immL, rpD]
theorem imm_rec {K : PySem.W.Frag} {r : Rec} : imm (recD K r) = true := by
  simp [recD, imm, imm.immF, imm_strs, imm_rps]

end Pk

namespace Pk
open PySem PySem.Spec PyProof.Rows L2 Dt
def w_record_text (K : PySem.W.Frag) : WS := (wSeq (wIfS (wNot (wTru (wCB (isiXW K) (wCons (wVar 0) (wCons (wC (.obj (.ref (He.ga K "Record")))) wNil))))) (wRaise0 (He.ga K "BadRecord")) (fun _ De n δ => De.nx n δ)) (wSeq (wSet 1 (wLst (wCons (wLst (wCons (wC (.str "observers")) (wStar (wProp (He.ga K "Record") "own_observers" (wVar 0)) wNil))) (wCons (wLst (wCons (wC (.str "things")) (wStar (wProp (He.ga K "Record") "own_things" (wVar 0)) wNil))) wNil)))) (wSeq (wSet 1 (wOp addW (wVar 1) (wLc (wItems (wProp (He.ga K "Record") "own_reports" (wVar 0))) (gT 4 (gsCons (gN 2) (gsCons (gN 3) (gsCons (gN 4) (gsCons (gN 5) gsNil))))) wYes (wLst (wCons (wVar 2) (wCons (wVar 3) (wCons (wVar 5) (wCons (wVar 4) wNil))))) [2, 3, 4, 5]))) (wRet (wJoin (wC (.str "")) (wLc (wItems (wVar 1)) (gN 6) wYes (wOp addW (wJoin (wC (.str " ")) (wVar 6)) (wC (.str "\n"))) [6]))))))
-- slots of record_text: 0 record, 1 lines, 2 observer, 3 one, 4 other, 5 answer, 6 words
/-- the lines' words -/
def rowsOf (os ts : List Str) (rs : List Rp) : List (List Str) := ("observers" :: os) :: ("things" :: ts) :: rs.map fun p => [p.o, p.a, p.w, p.b]
def pageT (rows : List (List Str)) : Str := Txt.join "" (rows.map fun ws => Txt.join " " ws ++ "\n")
def wsum (ws : List Str) : Nat := (ws.map (·.length)).sum + ws.length
theorem join_le (ws : List Str) : (Txt.join " " ws).length ≤ wsum ws := by
  rw [txt_join']
  have := PySem.StrLaws.join_length_le " " ws
  have e : (" " : Str).length = 1 := rfl
  rw [e] at this
  unfold wsum
  omega
/-- the text of lines -/
theorem page_loop {c : Ct} {n i : Nat} {δ : List Sl} {rows : List (List Str)} {P : Nat → List D → Prop} (hi : i < δ.length) (hw : ∀ ws ∈ rows, wsum ws ≤ 1000) (h : P n (rows.map fun ws => .str (Txt.join " " ws ++ "\n"))) : wLoop (gN i) wYes (wOp addW (wJoin (wC (.str " ")) (wVar i)) (wC (.str "\n"))) c δ (rows.map fun ws => .lst (ws.map .str)) n P := by
  refine loop_map (fun d => match d with | .lst xs => .str (Txt.join " " ((strL xs).getD []) ++ "\n") | _ => .non) _ _ (fun d hd Q hQ => ?_) ?_
  · obtain ⟨ws, hws, rfl⟩ := List.mem_map.mp hd
    have := hw ws hws
    have hj := join_le ws
    simp only [Dt.wSeq, Dt.wIfS, Dt.wRet, Dt.wSet, Dt.wOwn, Dt.wAsg, Dt.wPar2, Dt.wPar3, Dt.xV, Dt.xO, Dt.wVar, Dt.wC, Dt.wCB, Dt.wCons, Dt.wNil, Dt.wOp, Dt.wTru, Dt.wB, Dt.wNot, Dt.wAnd, Dt.wOr, Dt.wV, Dt.wAndV, Dt.wOrV, Dt.wNotV, Dt.wIf, Dt.wCall, Dt.wLst, Dt.wTup, Dt.wLc, Dt.wForS, Dt.wItems, Dt.wEn, Dt.wZi, Dt.wRg1, Dt.wRg2, Dt.wSl, Dt.oNone, Dt.oSome, Dt.wJoin, Dt.wSplit, Dt.wDisp, Dt.psCons, Dt.psNil, Dt.wBor, Dt.wBorT, Dt.wBorF, Dt.wDrop, Dt.wNeg, Dt.wInt, Dt.wCh, Dt.wStar, Dt.wStA, Dt.gU, Dt.wRev, Dt.wProp, Dt.wFld, Dt.wRaise0, Dt.wRaise1, Dt.wApp, Dt.wSetI, Dt.wPutI, Dt.ownL, Dt.ownM, Dt.wCallD, Dt.wCallK, Dt.mPre, Dt.mSto, Dt.mNil, Dt.asB, Dt.asI, Dt.asS, Dt.asK, Dt.asL, Dt.truW, Dt.addW, Dt.addF, Dt.subW, Dt.iiW, Dt.ciW, Dt.ltW, Dt.leW, Dt.gtW, Dt.geW, Dt.mulW, Dt.fdivW, Dt.modW, Dt.iltW, Dt.iltW.iiB, Dt.ileW, Dt.ixW, Dt.slW, Dt.slF, Dt.lenW, Dt.intW, Dt.absW, Dt.ii2, Dt.listW, Dt.tupleW, Dt.dictW, Dt.inW, Dt.notInW, Dt.isNW, Dt.isNotNW, Dt.isN, Dt.lenOW, Dt.eqW_ii, Dt.neW_ii, Dt.eqW_bb, Dt.eqW_ss, Dt.neW_ss, Dt.isK_non_bool, Dt.isK_non_int, Dt.isK_non_str, Dt.isK_non_list, Dt.isK_non_tuple, Dt.isK_non_dict, Dt.isK_bl_bool, Dt.isK_bl_int, Dt.isK_bl_str, Dt.isK_bl_list, Dt.isK_bl_tuple, Dt.isK_bl_dict, Dt.isK_int_bool, Dt.isK_int_int, Dt.isK_int_str, Dt.isK_int_list, Dt.isK_int_tuple, Dt.isK_int_dict, Dt.isK_str_bool, Dt.isK_str_int, Dt.isK_str_str, Dt.isK_str_list, Dt.isK_str_tuple, Dt.isK_str_dict, Dt.isK_lst_bool, Dt.isK_lst_int, Dt.isK_lst_str, Dt.isK_lst_list, Dt.isK_lst_tuple, Dt.isK_lst_dict, Dt.isK_tup_bool, Dt.isK_tup_int, Dt.isK_tup_str, Dt.isK_tup_list, Dt.isK_tup_tuple, Dt.isK_tup_dict, Dt.isK_dct_bool, Dt.isK_dct_int, Dt.isK_dct_str, Dt.isK_dct_list, Dt.isK_dct_tuple, Dt.isK_dct_dict, Dt.isK_ins_bool, Dt.isK_ins_int, Dt.isK_ins_str, Dt.isK_ins_list, Dt.isK_ins_tuple, Dt.isK_ins_dict, Dt.gN, Dt.gT, Dt.gsCons, Dt.gsNil, Dt.δ0, Dt.frz, Dt.wipeD, Dt.keyD, Dt.De0, List.map_cons, List.map_nil, List.length_cons, List.length_nil, List.replicate_succ, List.replicate_zero, List.cons_append, List.nil_append, List.getElem?_cons_zero, List.getElem?_cons_succ, List.set_cons_zero, List.set_cons_succ, Nat.reduceSub, Nat.reduceAdd, Nat.zero_add, reduceIte, Bool.not_true, Bool.not_false, Bool.false_eq_true, Bool.not_eq_true, Bool.true_eq_false, true_and, and_true, ne_eq, decide_eq_true_eq, Bool.not_eq_eq_eq_not, decide_eq_false_iff_not, Option.isSome_some, Option.isSome_none, Bool.or_eq_true, Bool.and_eq_true]
    rw [List.getElem?_set_self hi]
    simp only [joinW, Dt.wSeq, Dt.wIfS, Dt.wRet, Dt.wSet, Dt.wOwn, Dt.wAsg, Dt.wPar2, Dt.wPar3, Dt.xV, Dt.xO, Dt.wVar, Dt.wC, Dt.wCB, Dt.wCons, Dt.wNil, Dt.wOp, Dt.wTru, Dt.wB, Dt.wNot, Dt.wAnd, Dt.wOr, Dt.wV, Dt.wAndV, Dt.wOrV, Dt.wNotV, Dt.wIf, Dt.wCall, Dt.wLst, Dt.wTup, Dt.wLc, Dt.wForS, Dt.wItems, Dt.wEn, Dt.wZi, Dt.wRg1, Dt.wRg2, Dt.wSl, Dt.oNone, Dt.oSome, Dt.wJoin, Dt.wSplit, Dt.wDisp, Dt.psCons, Dt.psNil, Dt.wBor, Dt.wBorT, Dt.wBorF, Dt.wDrop, Dt.wNeg, Dt.wInt, Dt.wCh, Dt.wStar, Dt.wStA, Dt.gU, Dt.wRev, Dt.wProp, Dt.wFld, Dt.wRaise0, Dt.wRaise1, Dt.wApp, Dt.wSetI, Dt.wPutI, Dt.ownL, Dt.ownM, Dt.wCallD, Dt.wCallK, Dt.mPre, Dt.mSto, Dt.mNil, Dt.asB, Dt.asI, Dt.asS, Dt.asK, Dt.asL, Dt.truW, Dt.addW, Dt.addF, Dt.subW, Dt.iiW, Dt.ciW, Dt.ltW, Dt.leW, Dt.gtW, Dt.geW, Dt.mulW, Dt.fdivW, Dt.modW, Dt.iltW, Dt.iltW.iiB, Dt.ileW, Dt.ixW, Dt.slW, Dt.slF, Dt.lenW, Dt.intW, Dt.absW, Dt.ii2, Dt.listW, Dt.tupleW, Dt.dictW, Dt.inW, Dt.notInW, Dt.isNW, Dt.isNotNW, Dt.isN, Dt.lenOW, Dt.eqW_ii, Dt.neW_ii, Dt.eqW_bb, Dt.eqW_ss, Dt.neW_ss, Dt.isK_non_bool, Dt.isK_non_int, Dt.isK_non_str, Dt.isK_non_list, Dt.isK_non_tuple, Dt.isK_non_dict, Dt.isK_bl_bool, Dt.isK_bl_int, Dt.isK_bl_str, Dt.isK_bl_list, Dt.isK_bl_tuple, Dt.isK_bl_dict, Dt.isK_int_bool, Dt.isK_int_int, Dt.isK_int_str, Dt.isK_int_list, Dt.isK_int_tuple, Dt.isK_int_dict, Dt.isK_str_bool, Dt.isK_str_int, Dt.isK_str_str, Dt.isK_str_list, Dt.isK_str_tuple, Dt.isK_str_dict, Dt.isK_lst_bool, Dt.isK_lst_int, Dt.isK_lst_str, Dt.isK_lst_list, Dt.isK_lst_tuple, Dt.isK_lst_dict, Dt.isK_tup_bool, Dt.isK_tup_int, Dt.isK_tup_str, Dt.isK_tup_list, Dt.isK_tup_tuple, Dt.isK_tup_dict, Dt.isK_dct_bool, Dt.isK_dct_int, Dt.isK_dct_str, Dt.isK_dct_list, Dt.isK_dct_tuple, Dt.isK_dct_dict, Dt.isK_ins_bool, Dt.isK_ins_int, Dt.isK_ins_str, Dt.isK_ins_list, Dt.isK_ins_tuple, Dt.isK_ins_dict, Dt.gN, Dt.gT, Dt.gsCons, Dt.gsNil, Dt.δ0, Dt.frz, Dt.wipeD, Dt.keyD, Dt.De0, List.map_cons, List.map_nil, List.length_cons, List.length_nil, List.replicate_succ, List.replicate_zero, List.cons_append, List.nil_append, List.getElem?_cons_zero, List.getElem?_cons_succ, List.set_cons_zero, List.set_cons_succ, Nat.reduceSub, Nat.reduceAdd, Nat.zero_add, reduceIte, Bool.not_true, Bool.not_false, Bool.false_eq_true, Bool.not_eq_true, Bool.true_eq_false, true_and, and_true, ne_eq, decide_eq_true_eq, Bool.not_eq_eq_eq_not, decide_eq_false_iff_not, Option.isSome_some, Option.isSome_none, Bool.or_eq_true, Bool.and_eq_true]
    refine ⟨ws, strL_strs ws, ?_, ?_, ?_⟩
    · have e : (" " : Str).length = 1 := rfl
      unfold wsum at this
      rw [e]
      omega
    · have e : ("\n" : Str).length = 1 := rfl
      rw [sizeLine_eq, e]
      omega
    · simp only [strL_strs] at hQ
      exact hQ
  · rw [List.map_map]
    have : (fun d => match d with | D.lst xs => D.str (Txt.join " " ((strL xs).getD []) ++ "\n") | _ => D.non) ∘ (fun ws : List Str => D.lst (ws.map .str)) = fun ws => D.str (Txt.join " " ws ++ "\n") := by
      funext ws
      simp [strL_strs]
    rw [this]
    exact h
theorem page_join {rows : List (List Str)} {P : D → Prop} (hl : rows.length ≤ 1000) (hw : ∀ ws ∈ rows, wsum ws ≤ 1000) (h : P (.str (pageT rows))) : joinW (.str "") (.lst (rows.map fun ws => .str (Txt.join " " ws ++ "\n"))) P := by
  refine ⟨rows.map fun ws => Txt.join " " ws ++ "\n", ?_, ?_, h⟩
  · have : (rows.map fun ws => D.str (Txt.join " " ws ++ "\n")) = (rows.map fun ws => Txt.join " " ws ++ "\n").map .str := by rw [List.map_map]; rfl
    rw [this, strL_strs]
  · have : ∀ l : List (List Str), (∀ ws ∈ l, wsum ws ≤ 1000) → ((l.map fun ws => Txt.join " " ws ++ "\n").map (·.length)).sum ≤ 1001 * l.length := by
      intro l
      induction l with
      | nil => intro _; simp
      | cons a l ih =>
        intro h
        have h1 := ih fun ws hws => h ws (.tail _ hws)
        have h2 := h a (.head _)
        have h3 := join_le a
        have e : (Txt.join " " a ++ "\n" : Str).length = (Txt.join " " a).length + 1 := PySem.Str.length_append _ _
        simp only [List.map_cons, List.sum_cons, List.length_cons, e]
        omega
    have h1 := this rows hw
    have e : ("" : Str).length = 0 := rfl
    rw [e]
    omega
structure Rec.ok (r : Rec) : Prop where
  on : ∀ s ∈ r.os, nameB s = true
  tn : ∀ s ∈ r.ts, nameB s = true
  od : r.os.Nodup
  td : r.ts.Nodup
  os : sortS r.os = r.os
  ts : sortS r.ts = r.ts
  rp : ∀ p ∈ r.rs, p.ok r.os r.ts
  o1 : 1 ≤ r.os.length
  o4 : r.os.length ≤ 4
  t2 : 2 ≤ r.ts.length
  t8 : r.ts.length ≤ 8
theorem wsum_le {B : Nat} : ∀ {ws : List Str}, (∀ s ∈ ws, s.length ≤ B) → wsum ws ≤ (B + 1) * ws.length
  | [], _ => by simp [wsum]
  | s :: ws, h => by
    have h1 := h s (.head _)
    have h2 := wsum_le (ws := ws) fun t ht => h t (.tail _ ht)
    unfold wsum at h2 ⊢
    simp only [List.map_cons, List.sum_cons, List.length_cons, Nat.mul_succ]
    omega
theorem ans_len {w : Str} (h : w ∈ answersL) : w.length ≤ 4 := by
  have : ∀ w ∈ answersL, w.length ≤ 4 := by decide +kernel
  exact this w h
theorem rows_le {os ts : List Str} {rs : List Rp} (ho : ∀ s ∈ os, nameB s = true) (ht : ∀ s ∈ ts, nameB s = true) (hr : ∀ p ∈ rs, p.ok os ts) (lo : os.length ≤ 4) (lt : ts.length ≤ 8) : ∀ ws ∈ rowsOf os ts rs, wsum ws ≤ 1000 := by
  intro ws hws
  simp only [rowsOf, List.mem_cons, List.mem_map] at hws
  rcases hws with rfl | rfl | ⟨p, hp, rfl⟩
  · refine Nat.le_trans (wsum_le (B := 9) fun s hs => ?_) (by simp only [List.length_cons]; omega)
    rcases List.mem_cons.mp hs with rfl | hs
    · decide
    · exact Nat.le_trans (nameB_len (ho s hs)) (by decide)
  · refine Nat.le_trans (wsum_le (B := 9) fun s hs => ?_) (by simp only [List.length_cons]; omega)
    rcases List.mem_cons.mp hs with rfl | hs
    · decide
    · exact Nat.le_trans (nameB_len (ht s hs)) (by decide)
  · have k := hr p hp
    refine Nat.le_trans (wsum_le (B := 9) fun s hs => ?_) (by simp only [List.length_cons, List.length_nil]; omega)
    simp only [List.mem_cons, List.not_mem_nil, or_false] at hs
    rcases hs with rfl | rfl | rfl | rfl
    · exact Nat.le_trans (nameB_len (ho _ k.o)) (by decide)
    · exact Nat.le_trans (nameB_len (ht _ k.a)) (by decide)
    · exact Nat.le_trans (ans_len k.w) (by decide)
    · exact Nat.le_trans (nameB_len (ht _ k.b)) (by decide)
def cf_record_text (K : PySem.W.Frag) : Con := fun c n ds P => match ds with
  | [d] => (∃ r : Rec, d = recD K r ∧ r.ok ∧ r.rs.length ≤ 100 ∧ P n (.str (pageT (rowsOf r.os r.ts r.rs)))) ∨ ((tyN d).isSome = true ∧ c.ex n ⟨.ref (He.ga K "BadRecord"), none⟩)
  | _ => False
theorem pl_record_text {K : PySem.W.Frag} (kr : KRec K) (c : Ct) (n : Nat) (ds : List D) (P : Nat → D → Prop) (h : cf_record_text K c n ds P) : w_record_text K c (De0 P) n (δ0 ["record", "lines", "observer", "one", "other", "answer", "words"] ds) := by
  match ds, h with
  | [d], .inr ⟨h1, h2⟩ =>
    simp only [w_record_text, Dt.wSeq, Dt.wIfS, Dt.wRet, Dt.wSet, Dt.wOwn, Dt.wAsg, Dt.wPar2, Dt.wPar3, Dt.xV, Dt.xO, Dt.wVar, Dt.wC, Dt.wCB, Dt.wCons, Dt.wNil, Dt.wOp, Dt.wTru, Dt.wB, Dt.wNot, Dt.wAnd, Dt.wOr, Dt.wV, Dt.wAndV, Dt.wOrV, Dt.wNotV, Dt.wIf, Dt.wCall, Dt.wLst, Dt.wTup, Dt.wLc, Dt.wForS, Dt.wItems, Dt.wEn, Dt.wZi, Dt.wRg1, Dt.wRg2, Dt.wSl, Dt.oNone, Dt.oSome, Dt.wJoin, Dt.wSplit, Dt.wDisp, Dt.psCons, Dt.psNil, Dt.wBor, Dt.wBorT, Dt.wBorF, Dt.wDrop, Dt.wNeg, Dt.wInt, Dt.wCh, Dt.wStar, Dt.wStA, Dt.gU, Dt.wRev, Dt.wProp, Dt.wFld, Dt.wRaise0, Dt.wRaise1, Dt.wApp, Dt.wSetI, Dt.wPutI, Dt.ownL, Dt.ownM, Dt.wCallD, Dt.wCallK, Dt.mPre, Dt.mSto, Dt.mNil, Dt.asB, Dt.asI, Dt.asS, Dt.asK, Dt.asL, Dt.truW, Dt.addW, Dt.addF, Dt.subW, Dt.iiW, Dt.ciW, Dt.ltW, Dt.leW, Dt.gtW, Dt.geW, Dt.mulW, Dt.fdivW, Dt.modW, Dt.iltW, Dt.iltW.iiB, Dt.ileW, Dt.ixW, Dt.slW, Dt.slF, Dt.lenW, Dt.intW, Dt.absW, Dt.ii2, Dt.listW, Dt.tupleW, Dt.dictW, Dt.inW, Dt.notInW, Dt.isNW, Dt.isNotNW, Dt.isN, Dt.lenOW, Dt.eqW_ii, Dt.neW_ii, Dt.eqW_bb, Dt.eqW_ss, Dt.neW_ss, Dt.isK_non_bool, Dt.isK_non_int, Dt.isK_non_str, Dt.isK_non_list, Dt.isK_non_tuple, Dt.isK_non_dict, Dt.isK_bl_bool, Dt.isK_bl_int, Dt.isK_bl_str, Dt.isK_bl_list, Dt.isK_bl_tuple, Dt.isK_bl_dict, Dt.isK_int_bool, Dt.isK_int_int, Dt.isK_int_str, Dt.isK_int_list, Dt.isK_int_tuple, Dt.isK_int_dict, Dt.isK_str_bool, Dt.isK_str_int, Dt.isK_str_str, Dt.isK_str_list, Dt.isK_str_tuple, Dt.isK_str_dict, Dt.isK_lst_bool, Dt.isK_lst_int, Dt.isK_lst_str, Dt.isK_lst_list, Dt.isK_lst_tuple, Dt.isK_lst_dict, Dt.isK_tup_bool, Dt.isK_tup_int, Dt.isK_tup_str, Dt.isK_tup_list, Dt.isK_tup_tuple, Dt.isK_tup_dict, Dt.isK_dct_bool, Dt.isK_dct_int, Dt.isK_dct_str, Dt.isK_dct_list, Dt.isK_dct_tuple, Dt.isK_dct_dict, Dt.isK_ins_bool, Dt.isK_ins_int, Dt.isK_ins_str, Dt.isK_ins_list, Dt.isK_ins_tuple, Dt.isK_ins_dict, Dt.gN, Dt.gT, Dt.gsCons, Dt.gsNil, Dt.δ0, Dt.frz, Dt.wipeD, Dt.keyD, Dt.De0, List.map_cons, List.map_nil, List.length_cons, List.length_nil, List.replicate_succ, List.replicate_zero, List.cons_append, List.nil_append, List.getElem?_cons_zero, List.getElem?_cons_succ, List.set_cons_zero, List.set_cons_succ, Nat.reduceSub, Nat.reduceAdd, Nat.zero_add, reduceIte, Bool.not_true, Bool.not_false, Bool.false_eq_true, Bool.not_eq_true, Bool.true_eq_false, true_and, and_true, ne_eq, decide_eq_true_eq, Bool.not_eq_eq_eq_not, decide_eq_false_iff_not, Option.isSome_some, Option.isSome_none, Bool.or_eq_true, Bool.and_eq_true]
    exact isR_not kr h1 h2
  | [d], .inl ⟨r, h1, hr, hl, h2⟩ =>
    subst h1
    have := hr.o4
    have := hr.t8
    simp only [w_record_text, Dt.wSeq, Dt.wIfS, Dt.wRet, Dt.wSet, Dt.wOwn, Dt.wAsg, Dt.wPar2, Dt.wPar3, Dt.xV, Dt.xO, Dt.wVar, Dt.wC, Dt.wCB, Dt.wCons, Dt.wNil, Dt.wOp, Dt.wTru, Dt.wB, Dt.wNot, Dt.wAnd, Dt.wOr, Dt.wV, Dt.wAndV, Dt.wOrV, Dt.wNotV, Dt.wIf, Dt.wCall, Dt.wLst, Dt.wTup, Dt.wLc, Dt.wForS, Dt.wItems, Dt.wEn, Dt.wZi, Dt.wRg1, Dt.wRg2, Dt.wSl, Dt.oNone, Dt.oSome, Dt.wJoin, Dt.wSplit, Dt.wDisp, Dt.psCons, Dt.psNil, Dt.wBor, Dt.wBorT, Dt.wBorF, Dt.wDrop, Dt.wNeg, Dt.wInt, Dt.wCh, Dt.wStar, Dt.wStA, Dt.gU, Dt.wRev, Dt.wProp, Dt.wFld, Dt.wRaise0, Dt.wRaise1, Dt.wApp, Dt.wSetI, Dt.wPutI, Dt.ownL, Dt.ownM, Dt.wCallD, Dt.wCallK, Dt.mPre, Dt.mSto, Dt.mNil, Dt.asB, Dt.asI, Dt.asS, Dt.asK, Dt.asL, Dt.truW, Dt.addW, Dt.addF, Dt.subW, Dt.iiW, Dt.ciW, Dt.ltW, Dt.leW, Dt.gtW, Dt.geW, Dt.mulW, Dt.fdivW, Dt.modW, Dt.iltW, Dt.iltW.iiB, Dt.ileW, Dt.ixW, Dt.slW, Dt.slF, Dt.lenW, Dt.intW, Dt.absW, Dt.ii2, Dt.listW, Dt.tupleW, Dt.dictW, Dt.inW, Dt.notInW, Dt.isNW, Dt.isNotNW, Dt.isN, Dt.lenOW, Dt.eqW_ii, Dt.neW_ii, Dt.eqW_bb, Dt.eqW_ss, Dt.neW_ss, Dt.isK_non_bool, Dt.isK_non_int, Dt.isK_non_str, Dt.isK_non_list, Dt.isK_non_tuple, Dt.isK_non_dict, Dt.isK_bl_bool, Dt.isK_bl_int, Dt.isK_bl_str, Dt.isK_bl_list, Dt.isK_bl_tuple, Dt.isK_bl_dict, Dt.isK_int_bool, Dt.isK_int_int, Dt.isK_int_str, Dt.isK_int_list, Dt.isK_int_tuple, Dt.isK_int_dict, Dt.isK_str_bool, Dt.isK_str_int, Dt.isK_str_str, Dt.isK_str_list, Dt.isK_str_tuple, Dt.isK_str_dict, Dt.isK_lst_bool, Dt.isK_lst_int, Dt.isK_lst_str, Dt.isK_lst_list, Dt.isK_lst_tuple, Dt.isK_lst_dict, Dt.isK_tup_bool, Dt.isK_tup_int, Dt.isK_tup_str, Dt.isK_tup_list, Dt.isK_tup_tuple, Dt.isK_tup_dict, Dt.isK_dct_bool, Dt.isK_dct_int, Dt.isK_dct_str, Dt.isK_dct_list, Dt.isK_dct_tuple, Dt.isK_dct_dict, Dt.isK_ins_bool, Dt.isK_ins_int, Dt.isK_ins_str, Dt.isK_ins_list, Dt.isK_ins_tuple, Dt.isK_ins_dict, Dt.gN, Dt.gT, Dt.gsCons, Dt.gsNil, Dt.δ0, Dt.frz, Dt.wipeD, Dt.keyD, Dt.De0, List.map_cons, List.map_nil, List.length_cons, List.length_nil, List.replicate_succ, List.replicate_zero, List.cons_append, List.nil_append, List.getElem?_cons_zero, List.getElem?_cons_succ, List.set_cons_zero, List.set_cons_succ, Nat.reduceSub, Nat.reduceAdd, Nat.zero_add, reduceIte, Bool.not_true, Bool.not_false, Bool.false_eq_true, Bool.not_eq_true, Bool.true_eq_false, true_and, and_true, ne_eq, decide_eq_true_eq, Bool.not_eq_eq_eq_not, decide_eq_false_iff_not, Option.isSome_some, Option.isSome_none, Bool.or_eq_true, Bool.and_eq_true]
    refine isR_rec kr ?_
    simp only [Dt.wSeq, Dt.wIfS, Dt.wRet, Dt.wSet, Dt.wOwn, Dt.wAsg, Dt.wPar2, Dt.wPar3, Dt.xV, Dt.xO, Dt.wVar, Dt.wC, Dt.wCB, Dt.wCons, Dt.wNil, Dt.wOp, Dt.wTru, Dt.wB, Dt.wNot, Dt.wAnd, Dt.wOr, Dt.wV, Dt.wAndV, Dt.wOrV, Dt.wNotV, Dt.wIf, Dt.wCall, Dt.wLst, Dt.wTup, Dt.wLc, Dt.wForS, Dt.wItems, Dt.wEn, Dt.wZi, Dt.wRg1, Dt.wRg2, Dt.wSl, Dt.oNone, Dt.oSome, Dt.wJoin, Dt.wSplit, Dt.wDisp, Dt.psCons, Dt.psNil, Dt.wBor, Dt.wBorT, Dt.wBorF, Dt.wDrop, Dt.wNeg, Dt.wInt, Dt.wCh, Dt.wStar, Dt.wStA, Dt.gU, Dt.wRev, Dt.wProp, Dt.wFld, Dt.wRaise0, Dt.wRaise1, Dt.wApp, Dt.wSetI, Dt.wPutI, Dt.ownL, Dt.ownM, Dt.wCallD, Dt.wCallK, Dt.mPre, Dt.mSto, Dt.mNil, Dt.asB, Dt.asI, Dt.asS, Dt.asK, Dt.asL, Dt.truW, Dt.addW, Dt.addF, Dt.subW, Dt.iiW, Dt.ciW, Dt.ltW, Dt.leW, Dt.gtW, Dt.geW, Dt.mulW, Dt.fdivW, Dt.modW, Dt.iltW, Dt.iltW.iiB, Dt.ileW, Dt.ixW, Dt.slW, Dt.slF, Dt.lenW, Dt.intW, Dt.absW, Dt.ii2, Dt.listW, Dt.tupleW, Dt.dictW, Dt.inW, Dt.notInW, Dt.isNW, Dt.isNotNW, Dt.isN, Dt.lenOW, Dt.eqW_ii, Dt.neW_ii, Dt.eqW_bb, Dt.eqW_ss, Dt.neW_ss, Dt.isK_non_bool, Dt.isK_non_int, Dt.isK_non_str, Dt.isK_non_list, Dt.isK_non_tuple, Dt.isK_non_dict, Dt.isK_bl_bool, Dt.isK_bl_int, Dt.isK_bl_str, Dt.isK_bl_list, Dt.isK_bl_tuple, Dt.isK_bl_dict, Dt.isK_int_bool, Dt.isK_int_int, Dt.isK_int_str, Dt.isK_int_list, Dt.isK_int_tuple, Dt.isK_int_dict, Dt.isK_str_bool, Dt.isK_str_int, Dt.isK_str_str, Dt.isK_str_list, Dt.isK_str_tuple, Dt.isK_str_dict, Dt.isK_lst_bool, Dt.isK_lst_int, Dt.isK_lst_str, Dt.isK_lst_list, Dt.isK_lst_tuple, Dt.isK_lst_dict, Dt.isK_tup_bool, Dt.isK_tup_int, Dt.isK_tup_str, Dt.isK_tup_list, Dt.isK_tup_tuple, Dt.isK_tup_dict, Dt.isK_dct_bool, Dt.isK_dct_int, Dt.isK_dct_str, Dt.isK_dct_list, Dt.isK_dct_tuple, Dt.isK_dct_dict, Dt.isK_ins_bool, Dt.isK_ins_int, Dt.isK_ins_str, Dt.isK_ins_list, Dt.isK_ins_tuple, Dt.isK_ins_dict, Dt.gN, Dt.gT, Dt.gsCons, Dt.gsNil, Dt.δ0, Dt.frz, Dt.wipeD, Dt.keyD, Dt.De0, List.map_cons, List.map_nil, List.length_cons, List.length_nil, List.replicate_succ, List.replicate_zero, List.cons_append, List.nil_append, List.getElem?_cons_zero, List.getElem?_cons_succ, List.set_cons_zero, List.set_cons_succ, Nat.reduceSub, Nat.reduceAdd, Nat.zero_add, reduceIte, Bool.not_true, Bool.not_false, Bool.false_eq_true, Bool.not_eq_true, Bool.true_eq_false, true_and, and_true, ne_eq, decide_eq_true_eq, Bool.not_eq_eq_eq_not, decide_eq_false_iff_not, Option.isSome_some, Option.isSome_none, Bool.or_eq_true, Bool.and_eq_true]
    refine ⟨_, rfl, _, rfl, ?_⟩
    simp only [List.length_append, List.length_map, List.append_nil, Dt.wSeq, Dt.wIfS, Dt.wRet, Dt.wSet, Dt.wOwn, Dt.wAsg, Dt.wPar2, Dt.wPar3, Dt.xV, Dt.xO, Dt.wVar, Dt.wC, Dt.wCB, Dt.wCons, Dt.wNil, Dt.wOp, Dt.wTru, Dt.wB, Dt.wNot, Dt.wAnd, Dt.wOr, Dt.wV, Dt.wAndV, Dt.wOrV, Dt.wNotV, Dt.wIf, Dt.wCall, Dt.wLst, Dt.wTup, Dt.wLc, Dt.wForS, Dt.wItems, Dt.wEn, Dt.wZi, Dt.wRg1, Dt.wRg2, Dt.wSl, Dt.oNone, Dt.oSome, Dt.wJoin, Dt.wSplit, Dt.wDisp, Dt.psCons, Dt.psNil, Dt.wBor, Dt.wBorT, Dt.wBorF, Dt.wDrop, Dt.wNeg, Dt.wInt, Dt.wCh, Dt.wStar, Dt.wStA, Dt.gU, Dt.wRev, Dt.wProp, Dt.wFld, Dt.wRaise0, Dt.wRaise1, Dt.wApp, Dt.wSetI, Dt.wPutI, Dt.ownL, Dt.ownM, Dt.wCallD, Dt.wCallK, Dt.mPre, Dt.mSto, Dt.mNil, Dt.asB, Dt.asI, Dt.asS, Dt.asK, Dt.asL, Dt.truW, Dt.addW, Dt.addF, Dt.subW, Dt.iiW, Dt.ciW, Dt.ltW, Dt.leW, Dt.gtW, Dt.geW, Dt.mulW, Dt.fdivW, Dt.modW, Dt.iltW, Dt.iltW.iiB, Dt.ileW, Dt.ixW, Dt.slW, Dt.slF, Dt.lenW, Dt.intW, Dt.absW, Dt.ii2, Dt.listW, Dt.tupleW, Dt.dictW, Dt.inW, Dt.notInW, Dt.isNW, Dt.isNotNW, Dt.isN, Dt.lenOW, Dt.eqW_ii, Dt.neW_ii, Dt.eqW_bb, Dt.eqW_ss, Dt.neW_ss, Dt.isK_non_bool, Dt.isK_non_int, Dt.isK_non_str, Dt.isK_non_list, Dt.isK_non_tuple, Dt.isK_non_dict, Dt.isK_bl_bool, Dt.isK_bl_int, Dt.isK_bl_str, Dt.isK_bl_list, Dt.isK_bl_tuple, Dt.isK_bl_dict, Dt.isK_int_bool, Dt.isK_int_int, Dt.isK_int_str, Dt.isK_int_list, Dt.isK_int_tuple, Dt.isK_int_dict, Dt.isK_str_bool, Dt.isK_str_int, Dt.isK_str_str, Dt.isK_str_list, Dt.isK_str_tuple, Dt.isK_str_dict, Dt.isK_lst_bool, Dt.isK_lst_int, Dt.isK_lst_str, Dt.isK_lst_list, Dt.isK_lst_tuple, Dt.isK_lst_dict, Dt.isK_tup_bool, Dt.isK_tup_int, Dt.isK_tup_str, Dt.isK_tup_list, Dt.isK_tup_tuple, Dt.isK_tup_dict, Dt.isK_dct_bool, Dt.isK_dct_int, Dt.isK_dct_str, Dt.isK_dct_list, Dt.isK_dct_tuple, Dt.isK_dct_dict, Dt.isK_ins_bool, Dt.isK_ins_int, Dt.isK_ins_str, Dt.isK_ins_list, Dt.isK_ins_tuple, Dt.isK_ins_dict, Dt.gN, Dt.gT, Dt.gsCons, Dt.gsNil, Dt.δ0, Dt.frz, Dt.wipeD, Dt.keyD, Dt.De0, List.map_cons, List.map_nil, List.length_cons, List.length_nil, List.replicate_succ, List.replicate_zero, List.cons_append, List.nil_append, List.getElem?_cons_zero, List.getElem?_cons_succ, List.set_cons_zero, List.set_cons_succ, Nat.reduceSub, Nat.reduceAdd, Nat.zero_add, reduceIte, Bool.not_true, Bool.not_false, Bool.false_eq_true, Bool.not_eq_true, Bool.true_eq_false, true_and, and_true, ne_eq, decide_eq_true_eq, Bool.not_eq_eq_eq_not, decide_eq_false_iff_not, Option.isSome_some, Option.isSome_none, Bool.or_eq_true, Bool.and_eq_true]
    refine ⟨by rw [sizeLine_eq]; omega, _, rfl, _, rfl, by rw [sizeLine_eq]; simp only [List.length_map]; omega, sz (by decide), ?_⟩
    refine ⟨_, rfl, _, rfl, by rw [sizeLine_eq, List.length_map]; omega, ?_⟩
    refine loop_map (fun d => match d with | .tup [a, b, x, w] => .lst [a, b, w, x] | _ => .non) _ _ (fun d hd Q hQ => ?_) ?_
    · obtain ⟨p, hp, rfl⟩ := List.mem_map.mp hd
      simp only [rpD, Dt.wSeq, Dt.wIfS, Dt.wRet, Dt.wSet, Dt.wOwn, Dt.wAsg, Dt.wPar2, Dt.wPar3, Dt.xV, Dt.xO, Dt.wVar, Dt.wC, Dt.wCB, Dt.wCons, Dt.wNil, Dt.wOp, Dt.wTru, Dt.wB, Dt.wNot, Dt.wAnd, Dt.wOr, Dt.wV, Dt.wAndV, Dt.wOrV, Dt.wNotV, Dt.wIf, Dt.wCall, Dt.wLst, Dt.wTup, Dt.wLc, Dt.wForS, Dt.wItems, Dt.wEn, Dt.wZi, Dt.wRg1, Dt.wRg2, Dt.wSl, Dt.oNone, Dt.oSome, Dt.wJoin, Dt.wSplit, Dt.wDisp, Dt.psCons, Dt.psNil, Dt.wBor, Dt.wBorT, Dt.wBorF, Dt.wDrop, Dt.wNeg, Dt.wInt, Dt.wCh, Dt.wStar, Dt.wStA, Dt.gU, Dt.wRev, Dt.wProp, Dt.wFld, Dt.wRaise0, Dt.wRaise1, Dt.wApp, Dt.wSetI, Dt.wPutI, Dt.ownL, Dt.ownM, Dt.wCallD, Dt.wCallK, Dt.mPre, Dt.mSto, Dt.mNil, Dt.asB, Dt.asI, Dt.asS, Dt.asK, Dt.asL, Dt.truW, Dt.addW, Dt.addF, Dt.subW, Dt.iiW, Dt.ciW, Dt.ltW, Dt.leW, Dt.gtW, Dt.geW, Dt.mulW, Dt.fdivW, Dt.modW, Dt.iltW, Dt.iltW.iiB, Dt.ileW, Dt.ixW, Dt.slW, Dt.slF, Dt.lenW, Dt.intW, Dt.absW, Dt.ii2, Dt.listW, Dt.tupleW, Dt.dictW, Dt.inW, Dt.notInW, Dt.isNW, Dt.isNotNW, Dt.isN, Dt.lenOW, Dt.eqW_ii, Dt.neW_ii, Dt.eqW_bb, Dt.eqW_ss, Dt.neW_ss, Dt.isK_non_bool, Dt.isK_non_int, Dt.isK_non_str, Dt.isK_non_list, Dt.isK_non_tuple, Dt.isK_non_dict, Dt.isK_bl_bool, Dt.isK_bl_int, Dt.isK_bl_str, Dt.isK_bl_list, Dt.isK_bl_tuple, Dt.isK_bl_dict, Dt.isK_int_bool, Dt.isK_int_int, Dt.isK_int_str, Dt.isK_int_list, Dt.isK_int_tuple, Dt.isK_int_dict, Dt.isK_str_bool, Dt.isK_str_int, Dt.isK_str_str, Dt.isK_str_list, Dt.isK_str_tuple, Dt.isK_str_dict, Dt.isK_lst_bool, Dt.isK_lst_int, Dt.isK_lst_str, Dt.isK_lst_list, Dt.isK_lst_tuple, Dt.isK_lst_dict, Dt.isK_tup_bool, Dt.isK_tup_int, Dt.isK_tup_str, Dt.isK_tup_list, Dt.isK_tup_tuple, Dt.isK_tup_dict, Dt.isK_dct_bool, Dt.isK_dct_int, Dt.isK_dct_str, Dt.isK_dct_list, Dt.isK_dct_tuple, Dt.isK_dct_dict, Dt.isK_ins_bool, Dt.isK_ins_int, Dt.isK_ins_str, Dt.isK_ins_list, Dt.isK_ins_tuple, Dt.isK_ins_dict, Dt.gN, Dt.gT, Dt.gsCons, Dt.gsNil, Dt.δ0, Dt.frz, Dt.wipeD, Dt.keyD, Dt.De0, List.map_cons, List.map_nil, List.length_cons, List.length_nil, List.replicate_succ, List.replicate_zero, List.cons_append, List.nil_append, List.getElem?_cons_zero, List.getElem?_cons_succ, List.set_cons_zero, List.set_cons_succ, Nat.reduceSub, Nat.reduceAdd, Nat.zero_add, reduceIte, Bool.not_true, Bool.not_false, Bool.false_eq_true, Bool.not_eq_true, Bool.true_eq_false, true_and, and_true, ne_eq, decide_eq_true_eq, Bool.not_eq_eq_eq_not, decide_eq_false_iff_not, Option.isSome_some, Option.isSome_none, Bool.or_eq_true, Bool.and_eq_true]
      exact ⟨sz (by decide), hQ⟩
    · simp only [List.length_map]
      refine ⟨by rw [sizeLine_eq]; omega, _, rfl, by rw [sizeLine_eq]; simp only [List.length_append, List.length_map, List.length_cons, List.length_nil]; omega, ?_⟩
      have e : (D.lst (D.str "observers" :: List.map D.str r.os) :: D.lst (D.str "things" :: List.map D.str r.ts) :: (List.map (fun d => match d with | D.tup [a, b, x, w] => D.lst [a, b, w, x] | _ => D.non) (List.map rpD r.rs))) = (rowsOf r.os r.ts r.rs).map fun ws => .lst (ws.map .str) := by
        simp only [rowsOf, List.map_cons, List.map_map]
        rfl
      simp only [List.cons_append, List.nil_append, e]
      refine page_loop (by simp) (rows_le hr.on hr.tn hr.rp hr.o4 hr.t8) (page_join (by simp only [rowsOf, List.length_cons, List.length_map]; omega) (rows_le hr.on hr.tn hr.rp hr.o4 hr.t8) h2)

def w_names_in_s2 (K : PySem.W.Frag) : WS := (wSeq (wIfS (wOr (wB (wOp neW (wVar 5) (wVar 2))) (wOr (wNot (wTru (wCall (cf_are_names K) (wCons (wVar 6) (wCons (wVar 3) (wCons (wVar 4) wNil)))))) (wB (wOp neW (wVar 6) (wCB sortSW (wCons (wVar 6) wNil)))))) (wRaise1 (He.ga K "BadText") "line" (wVar 1)) (fun _ De n δ => De.nx n δ)) (wRet (wVar 6)))
def w_names_in (K : PySem.W.Frag) : WS := (wSeq (wAsg (wOp ixW (wC (.tup [(.tup [(.str "observers"), (.int 1), (.int 4)]), (.tup [(.str "things"), (.int 2), (.int 8)])])) (wVar 1)) (gU 3 (gsCons (gN 2) (gsCons (gN 3) (gsCons (gN 4) gsNil))))) (wSeq (wStA 2 1 (wSplit (wVar 0) (wC (.str " "))) (gsCons (gN 5) (gsCons (gN 6) gsNil))) (w_names_in_s2 K)))
-- slots of names_in: 0 line, 1 at, 2 head, 3 least, 4 most, 5 word, 6 names
def headS (i : Nat) : Str := if i = 0 then "observers" else "things"
def headLo (i : Nat) : Int := if i = 0 then 1 else 2
def headHi (i : Nat) : Int := if i = 0 then 4 else 8
/-- the names of one of the first two lines -/
def nameLine (i : Nat) (line : Str) : Option (List Str) := match Txt.split line " " with
  | w :: ns => if w = headS i ∧ areNm (.lst (ns.map .str)) (headLo i) (headHi i) = true ∧ ns = sortS ns then some ns else none
  | [] => none
def cf_names_in (K : PySem.W.Frag) : Con := fun c n ds P => match ds with
  | [.str line, .int i] => PyData.strOk line = true ∧ line.length ≤ 100000 ∧ (i = 0 ∨ i = 1) ∧ (match nameLine i.toNat line with | some ns => P n (.lst (ns.map .str)) | none => c.ex n ⟨.ref (He.ga K "BadText"), some [("line", .int i)]⟩)
  | _ => False
theorem split_ne (x y : Str) : ∃ w ns, Txt.split x y = w :: ns := by
  have := PyProof.Rows.split_pos x y
  cases h : Txt.split x y with
  | nil => rw [h] at this; simp at this
  | cons w ns => exact ⟨w, ns, rfl⟩
theorem names_in_tail {K : PySem.W.Frag} {c : Ct} {n : Nat} {P : Nat → D → Prop} {line : Str} {i : Int} {s0 : Sl} (h1 : PyData.strOk line = true) (h2 : line.length ≤ 100000) (hi : i = 0 ∨ i = 1) {w : Str} {ns : List Str} (hs : Txt.split line " " = w :: ns)
    (h : match nameLine i.toNat line with | some ns => P n (.lst (ns.map .str)) | none => c.ex n ⟨.ref (He.ga K "BadText"), some [("line", .int i)]⟩) :
    w_names_in_s2 K c (De0 P) n [s0, .v (.int i), .v (.str (headS i.toNat)), .v (.int (headLo i.toNat)), .v (.int (headHi i.toNat)), .v (.str w), .v (.lst (ns.map .str))] := by
  unfold nameLine at h
  rw [hs] at h
  simp only at h
  have hok : ∀ s ∈ ns, PyData.strOk s = true := fun s hs' => part_ok (x := line) (y := " ") (by rw [hs]; exact .tail _ hs') h1
  have hln : ∀ s ∈ ns, s.length ≤ 100000 := fun s hs' => Nat.le_trans (part_len (x := line) (y := " ") (by rw [hs]; exact .tail _ hs')) h2
  have hlen : ns.length ≤ 100002 := by
    have := PyProof.Rows.split_le line " "
    rw [hs, List.length_cons] at this
    omega
  simp only [w_names_in_s2, cf_are_names, Dt.wSeq, Dt.wIfS, Dt.wRet, Dt.wSet, Dt.wOwn, Dt.wAsg, Dt.wPar2, Dt.wPar3, Dt.xV, Dt.xO, Dt.wVar, Dt.wC, Dt.wCB, Dt.wCons, Dt.wNil, Dt.wOp, Dt.wTru, Dt.wB, Dt.wNot, Dt.wAnd, Dt.wOr, Dt.wV, Dt.wAndV, Dt.wOrV, Dt.wNotV, Dt.wIf, Dt.wCall, Dt.wLst, Dt.wTup, Dt.wLc, Dt.wForS, Dt.wItems, Dt.wEn, Dt.wZi, Dt.wRg1, Dt.wRg2, Dt.wSl, Dt.oNone, Dt.oSome, Dt.wJoin, Dt.wSplit, Dt.wDisp, Dt.psCons, Dt.psNil, Dt.wBor, Dt.wBorT, Dt.wBorF, Dt.wDrop, Dt.wNeg, Dt.wInt, Dt.wCh, Dt.wStar, Dt.wStA, Dt.gU, Dt.wRev, Dt.wProp, Dt.wFld, Dt.wRaise0, Dt.wRaise1, Dt.wApp, Dt.wSetI, Dt.wPutI, Dt.ownL, Dt.ownM, Dt.wCallD, Dt.wCallK, Dt.mPre, Dt.mSto, Dt.mNil, Dt.asB, Dt.asI, Dt.asS, Dt.asK, Dt.asL, Dt.truW, Dt.addW, Dt.addF, Dt.subW, Dt.iiW, Dt.ciW, Dt.ltW, Dt.leW, Dt.gtW, Dt.geW, Dt.mulW, Dt.fdivW, Dt.modW, Dt.iltW, Dt.iltW.iiB, Dt.ileW, Dt.ixW, Dt.slW, Dt.slF, Dt.lenW, Dt.intW, Dt.absW, Dt.ii2, Dt.listW, Dt.tupleW, Dt.dictW, Dt.inW, Dt.notInW, Dt.isNW, Dt.isNotNW, Dt.isN, Dt.lenOW, Dt.eqW_ii, Dt.neW_ii, Dt.eqW_bb, Dt.eqW_ss, Dt.neW_ss, Dt.isK_non_bool, Dt.isK_non_int, Dt.isK_non_str, Dt.isK_non_list, Dt.isK_non_tuple, Dt.isK_non_dict, Dt.isK_bl_bool, Dt.isK_bl_int, Dt.isK_bl_str, Dt.isK_bl_list, Dt.isK_bl_tuple, Dt.isK_bl_dict, Dt.isK_int_bool, Dt.isK_int_int, Dt.isK_int_str, Dt.isK_int_list, Dt.isK_int_tuple, Dt.isK_int_dict, Dt.isK_str_bool, Dt.isK_str_int, Dt.isK_str_str, Dt.isK_str_list, Dt.isK_str_tuple, Dt.isK_str_dict, Dt.isK_lst_bool, Dt.isK_lst_int, Dt.isK_lst_str, Dt.isK_lst_list, Dt.isK_lst_tuple, Dt.isK_lst_dict, Dt.isK_tup_bool, Dt.isK_tup_int, Dt.isK_tup_str, Dt.isK_tup_list, Dt.isK_tup_tuple, Dt.isK_tup_dict, Dt.isK_dct_bool, Dt.isK_dct_int, Dt.isK_dct_str, Dt.isK_dct_list, Dt.isK_dct_tuple, Dt.isK_dct_dict, Dt.isK_ins_bool, Dt.isK_ins_int, Dt.isK_ins_str, Dt.isK_ins_list, Dt.isK_ins_tuple, Dt.isK_ins_dict, Dt.gN, Dt.gT, Dt.gsCons, Dt.gsNil, Dt.δ0, Dt.frz, Dt.wipeD, Dt.keyD, Dt.De0, List.map_cons, List.map_nil, List.length_cons, List.length_nil, List.replicate_succ, List.replicate_zero, List.cons_append, List.nil_append, List.getElem?_cons_zero, List.getElem?_cons_succ, List.set_cons_zero, List.set_cons_succ, Nat.reduceSub, Nat.reduceAdd, Nat.zero_add, reduceIte, Bool.not_true, Bool.not_false, Bool.false_eq_true, Bool.not_eq_true, Bool.true_eq_false, true_and, and_true, ne_eq, decide_eq_true_eq, Bool.not_eq_eq_eq_not, decide_eq_false_iff_not, Option.isSome_some, Option.isSome_none, Bool.or_eq_true, Bool.and_eq_true]
  by_cases hw : w = headS i.toNat
  · rw [if_neg (fun z => z hw)]
    refine ⟨⟨trivial, fun xs e => ?_⟩, ?_⟩
    · cases e
      refine ⟨by rw [List.length_map]; omega, fun x hx => ?_, depL_strs hok⟩
      obtain ⟨s, hs', rfl⟩ := List.mem_map.mp hx
      exact ⟨hok s hs', Nat.le_trans (hln s hs') (by decide)⟩
    · cases hn : areNm (.lst (ns.map .str)) (headLo i.toNat) (headHi i.toNat) with
      | false =>
        rw [if_neg (by rw [hn]; simp)] at h
        exact h
      | true =>
        obtain ⟨ns', e1, e2, e3, e4, e5, e6⟩ := areNm_strs hn
        have l8 : ns.length ≤ 8 := by
          have : ns' = ns := by rw [← e2]; exact nms_of rfl
          rw [this] at e6
          unfold headHi at e6
          split at e6 <;> omega
        simp only [Dt.wSeq, Dt.wIfS, Dt.wRet, Dt.wSet, Dt.wOwn, Dt.wAsg, Dt.wPar2, Dt.wPar3, Dt.xV, Dt.xO, Dt.wVar, Dt.wC, Dt.wCB, Dt.wCons, Dt.wNil, Dt.wOp, Dt.wTru, Dt.wB, Dt.wNot, Dt.wAnd, Dt.wOr, Dt.wV, Dt.wAndV, Dt.wOrV, Dt.wNotV, Dt.wIf, Dt.wCall, Dt.wLst, Dt.wTup, Dt.wLc, Dt.wForS, Dt.wItems, Dt.wEn, Dt.wZi, Dt.wRg1, Dt.wRg2, Dt.wSl, Dt.oNone, Dt.oSome, Dt.wJoin, Dt.wSplit, Dt.wDisp, Dt.psCons, Dt.psNil, Dt.wBor, Dt.wBorT, Dt.wBorF, Dt.wDrop, Dt.wNeg, Dt.wInt, Dt.wCh, Dt.wStar, Dt.wStA, Dt.gU, Dt.wRev, Dt.wProp, Dt.wFld, Dt.wRaise0, Dt.wRaise1, Dt.wApp, Dt.wSetI, Dt.wPutI, Dt.ownL, Dt.ownM, Dt.wCallD, Dt.wCallK, Dt.mPre, Dt.mSto, Dt.mNil, Dt.asB, Dt.asI, Dt.asS, Dt.asK, Dt.asL, Dt.truW, Dt.addW, Dt.addF, Dt.subW, Dt.iiW, Dt.ciW, Dt.ltW, Dt.leW, Dt.gtW, Dt.geW, Dt.mulW, Dt.fdivW, Dt.modW, Dt.iltW, Dt.iltW.iiB, Dt.ileW, Dt.ixW, Dt.slW, Dt.slF, Dt.lenW, Dt.intW, Dt.absW, Dt.ii2, Dt.listW, Dt.tupleW, Dt.dictW, Dt.inW, Dt.notInW, Dt.isNW, Dt.isNotNW, Dt.isN, Dt.lenOW, Dt.eqW_ii, Dt.neW_ii, Dt.eqW_bb, Dt.eqW_ss, Dt.neW_ss, Dt.isK_non_bool, Dt.isK_non_int, Dt.isK_non_str, Dt.isK_non_list, Dt.isK_non_tuple, Dt.isK_non_dict, Dt.isK_bl_bool, Dt.isK_bl_int, Dt.isK_bl_str, Dt.isK_bl_list, Dt.isK_bl_tuple, Dt.isK_bl_dict, Dt.isK_int_bool, Dt.isK_int_int, Dt.isK_int_str, Dt.isK_int_list, Dt.isK_int_tuple, Dt.isK_int_dict, Dt.isK_str_bool, Dt.isK_str_int, Dt.isK_str_str, Dt.isK_str_list, Dt.isK_str_tuple, Dt.isK_str_dict, Dt.isK_lst_bool, Dt.isK_lst_int, Dt.isK_lst_str, Dt.isK_lst_list, Dt.isK_lst_tuple, Dt.isK_lst_dict, Dt.isK_tup_bool, Dt.isK_tup_int, Dt.isK_tup_str, Dt.isK_tup_list, Dt.isK_tup_tuple, Dt.isK_tup_dict, Dt.isK_dct_bool, Dt.isK_dct_int, Dt.isK_dct_str, Dt.isK_dct_list, Dt.isK_dct_tuple, Dt.isK_dct_dict, Dt.isK_ins_bool, Dt.isK_ins_int, Dt.isK_ins_str, Dt.isK_ins_list, Dt.isK_ins_tuple, Dt.isK_ins_dict, Dt.gN, Dt.gT, Dt.gsCons, Dt.gsNil, Dt.δ0, Dt.frz, Dt.wipeD, Dt.keyD, Dt.De0, List.map_cons, List.map_nil, List.length_cons, List.length_nil, List.replicate_succ, List.replicate_zero, List.cons_append, List.nil_append, List.getElem?_cons_zero, List.getElem?_cons_succ, List.set_cons_zero, List.set_cons_succ, Nat.reduceSub, Nat.reduceAdd, Nat.zero_add, reduceIte, Bool.not_true, Bool.not_false, Bool.false_eq_true, Bool.not_eq_true, Bool.true_eq_false, true_and, and_true, ne_eq, decide_eq_true_eq, Bool.not_eq_eq_eq_not, decide_eq_false_iff_not, Option.isSome_some, Option.isSome_none, Bool.or_eq_true, Bool.and_eq_true]
        refine ⟨_, ns, rfl, strL_strs ns, by omega, ?_⟩
        refine ⟨⟨1, by decide, depL_strs hok, depL_strs fun s hs' => hok s ((sortS_perm ns).mem_iff.mp hs')⟩, ?_⟩
        rw [eqD_lst .str eqD_ss]
        simp only [Dt.wSeq, Dt.wIfS, Dt.wRet, Dt.wSet, Dt.wOwn, Dt.wAsg, Dt.wPar2, Dt.wPar3, Dt.xV, Dt.xO, Dt.wVar, Dt.wC, Dt.wCB, Dt.wCons, Dt.wNil, Dt.wOp, Dt.wTru, Dt.wB, Dt.wNot, Dt.wAnd, Dt.wOr, Dt.wV, Dt.wAndV, Dt.wOrV, Dt.wNotV, Dt.wIf, Dt.wCall, Dt.wLst, Dt.wTup, Dt.wLc, Dt.wForS, Dt.wItems, Dt.wEn, Dt.wZi, Dt.wRg1, Dt.wRg2, Dt.wSl, Dt.oNone, Dt.oSome, Dt.wJoin, Dt.wSplit, Dt.wDisp, Dt.psCons, Dt.psNil, Dt.wBor, Dt.wBorT, Dt.wBorF, Dt.wDrop, Dt.wNeg, Dt.wInt, Dt.wCh, Dt.wStar, Dt.wStA, Dt.gU, Dt.wRev, Dt.wProp, Dt.wFld, Dt.wRaise0, Dt.wRaise1, Dt.wApp, Dt.wSetI, Dt.wPutI, Dt.ownL, Dt.ownM, Dt.wCallD, Dt.wCallK, Dt.mPre, Dt.mSto, Dt.mNil, Dt.asB, Dt.asI, Dt.asS, Dt.asK, Dt.asL, Dt.truW, Dt.addW, Dt.addF, Dt.subW, Dt.iiW, Dt.ciW, Dt.ltW, Dt.leW, Dt.gtW, Dt.geW, Dt.mulW, Dt.fdivW, Dt.modW, Dt.iltW, Dt.iltW.iiB, Dt.ileW, Dt.ixW, Dt.slW, Dt.slF, Dt.lenW, Dt.intW, Dt.absW, Dt.ii2, Dt.listW, Dt.tupleW, Dt.dictW, Dt.inW, Dt.notInW, Dt.isNW, Dt.isNotNW, Dt.isN, Dt.lenOW, Dt.eqW_ii, Dt.neW_ii, Dt.eqW_bb, Dt.eqW_ss, Dt.neW_ss, Dt.isK_non_bool, Dt.isK_non_int, Dt.isK_non_str, Dt.isK_non_list, Dt.isK_non_tuple, Dt.isK_non_dict, Dt.isK_bl_bool, Dt.isK_bl_int, Dt.isK_bl_str, Dt.isK_bl_list, Dt.isK_bl_tuple, Dt.isK_bl_dict, Dt.isK_int_bool, Dt.isK_int_int, Dt.isK_int_str, Dt.isK_int_list, Dt.isK_int_tuple, Dt.isK_int_dict, Dt.isK_str_bool, Dt.isK_str_int, Dt.isK_str_str, Dt.isK_str_list, Dt.isK_str_tuple, Dt.isK_str_dict, Dt.isK_lst_bool, Dt.isK_lst_int, Dt.isK_lst_str, Dt.isK_lst_list, Dt.isK_lst_tuple, Dt.isK_lst_dict, Dt.isK_tup_bool, Dt.isK_tup_int, Dt.isK_tup_str, Dt.isK_tup_list, Dt.isK_tup_tuple, Dt.isK_tup_dict, Dt.isK_dct_bool, Dt.isK_dct_int, Dt.isK_dct_str, Dt.isK_dct_list, Dt.isK_dct_tuple, Dt.isK_dct_dict, Dt.isK_ins_bool, Dt.isK_ins_int, Dt.isK_ins_str, Dt.isK_ins_list, Dt.isK_ins_tuple, Dt.isK_ins_dict, Dt.gN, Dt.gT, Dt.gsCons, Dt.gsNil, Dt.δ0, Dt.frz, Dt.wipeD, Dt.keyD, Dt.De0, List.map_cons, List.map_nil, List.length_cons, List.length_nil, List.replicate_succ, List.replicate_zero, List.cons_append, List.nil_append, List.getElem?_cons_zero, List.getElem?_cons_succ, List.set_cons_zero, List.set_cons_succ, Nat.reduceSub, Nat.reduceAdd, Nat.zero_add, reduceIte, Bool.not_true, Bool.not_false, Bool.false_eq_true, Bool.not_eq_true, Bool.true_eq_false, true_and, and_true, ne_eq, decide_eq_true_eq, Bool.not_eq_eq_eq_not, decide_eq_false_iff_not, Option.isSome_some, Option.isSome_none, Bool.or_eq_true, Bool.and_eq_true]
        by_cases hq : ns = sortS ns
        · rw [if_pos ⟨hw, hn, hq⟩] at h
          rw [if_neg (fun z => z hq)]
          exact h
        · rw [if_neg (fun z => hq z.2.2)] at h
          rw [if_pos hq]
          exact h
  · rw [if_neg (fun z => hw z.1)] at h
    rw [if_pos hw]
    exact h
theorem pl_names_in {K : PySem.W.Frag} (c : Ct) (n : Nat) (ds : List D) (P : Nat → D → Prop) (h : cf_names_in K c n ds P) : w_names_in K c (De0 P) n (δ0 ["line", "at", "head", "least", "most", "word", "names"] ds) := by
  match ds, h with
  | [.str line, .int i], ⟨h1, h2, hi, h3⟩ =>
    obtain ⟨w, ns, hs⟩ := split_ne line " "
    have hx : ∃ x, atI [D.tup [.str "observers", .int 1, .int 4], D.tup [.str "things", .int 2, .int 8]] i = some x ∧ x = .tup [.str (headS i.toNat), .int (headLo i.toNat), .int (headHi i.toNat)] := by
      rcases hi with rfl | rfl
      · exact ⟨_, rfl, rfl⟩
      · exact ⟨_, rfl, rfl⟩
    obtain ⟨x, hx1, hx2⟩ := hx
    subst hx2
    simp only [w_names_in, Dt.wSeq, Dt.wIfS, Dt.wRet, Dt.wSet, Dt.wOwn, Dt.wAsg, Dt.wPar2, Dt.wPar3, Dt.xV, Dt.xO, Dt.wVar, Dt.wC, Dt.wCB, Dt.wCons, Dt.wNil, Dt.wOp, Dt.wTru, Dt.wB, Dt.wNot, Dt.wAnd, Dt.wOr, Dt.wV, Dt.wAndV, Dt.wOrV, Dt.wNotV, Dt.wIf, Dt.wCall, Dt.wLst, Dt.wTup, Dt.wLc, Dt.wForS, Dt.wItems, Dt.wEn, Dt.wZi, Dt.wRg1, Dt.wRg2, Dt.wSl, Dt.oNone, Dt.oSome, Dt.wJoin, Dt.wSplit, Dt.wDisp, Dt.psCons, Dt.psNil, Dt.wBor, Dt.wBorT, Dt.wBorF, Dt.wDrop, Dt.wNeg, Dt.wInt, Dt.wCh, Dt.wStar, Dt.wStA, Dt.gU, Dt.wRev, Dt.wProp, Dt.wFld, Dt.wRaise0, Dt.wRaise1, Dt.wApp, Dt.wSetI, Dt.wPutI, Dt.ownL, Dt.ownM, Dt.wCallD, Dt.wCallK, Dt.mPre, Dt.mSto, Dt.mNil, Dt.asB, Dt.asI, Dt.asS, Dt.asK, Dt.asL, Dt.truW, Dt.addW, Dt.addF, Dt.subW, Dt.iiW, Dt.ciW, Dt.ltW, Dt.leW, Dt.gtW, Dt.geW, Dt.mulW, Dt.fdivW, Dt.modW, Dt.iltW, Dt.iltW.iiB, Dt.ileW, Dt.ixW, Dt.slW, Dt.slF, Dt.lenW, Dt.intW, Dt.absW, Dt.ii2, Dt.listW, Dt.tupleW, Dt.dictW, Dt.inW, Dt.notInW, Dt.isNW, Dt.isNotNW, Dt.isN, Dt.lenOW, Dt.eqW_ii, Dt.neW_ii, Dt.eqW_bb, Dt.eqW_ss, Dt.neW_ss, Dt.isK_non_bool, Dt.isK_non_int, Dt.isK_non_str, Dt.isK_non_list, Dt.isK_non_tuple, Dt.isK_non_dict, Dt.isK_bl_bool, Dt.isK_bl_int, Dt.isK_bl_str, Dt.isK_bl_list, Dt.isK_bl_tuple, Dt.isK_bl_dict, Dt.isK_int_bool, Dt.isK_int_int, Dt.isK_int_str, Dt.isK_int_list, Dt.isK_int_tuple, Dt.isK_int_dict, Dt.isK_str_bool, Dt.isK_str_int, Dt.isK_str_str, Dt.isK_str_list, Dt.isK_str_tuple, Dt.isK_str_dict, Dt.isK_lst_bool, Dt.isK_lst_int, Dt.isK_lst_str, Dt.isK_lst_list, Dt.isK_lst_tuple, Dt.isK_lst_dict, Dt.isK_tup_bool, Dt.isK_tup_int, Dt.isK_tup_str, Dt.isK_tup_list, Dt.isK_tup_tuple, Dt.isK_tup_dict, Dt.isK_dct_bool, Dt.isK_dct_int, Dt.isK_dct_str, Dt.isK_dct_list, Dt.isK_dct_tuple, Dt.isK_dct_dict, Dt.isK_ins_bool, Dt.isK_ins_int, Dt.isK_ins_str, Dt.isK_ins_list, Dt.isK_ins_tuple, Dt.isK_ins_dict, Dt.gN, Dt.gT, Dt.gsCons, Dt.gsNil, Dt.δ0, Dt.frz, Dt.wipeD, Dt.keyD, Dt.De0, List.map_cons, List.map_nil, List.length_cons, List.length_nil, List.replicate_succ, List.replicate_zero, List.cons_append, List.nil_append, List.getElem?_cons_zero, List.getElem?_cons_succ, List.set_cons_zero, List.set_cons_succ, Nat.reduceSub, Nat.reduceAdd, Nat.zero_add, reduceIte, Bool.not_true, Bool.not_false, Bool.false_eq_true, Bool.not_eq_true, Bool.true_eq_false, true_and, and_true, ne_eq, decide_eq_true_eq, Bool.not_eq_eq_eq_not, decide_eq_false_iff_not, Option.isSome_some, Option.isSome_none, Bool.or_eq_true, Bool.and_eq_true]
    refine ⟨_, hx1, ?_⟩
    simp only [Dt.wSeq, Dt.wIfS, Dt.wRet, Dt.wSet, Dt.wOwn, Dt.wAsg, Dt.wPar2, Dt.wPar3, Dt.xV, Dt.xO, Dt.wVar, Dt.wC, Dt.wCB, Dt.wCons, Dt.wNil, Dt.wOp, Dt.wTru, Dt.wB, Dt.wNot, Dt.wAnd, Dt.wOr, Dt.wV, Dt.wAndV, Dt.wOrV, Dt.wNotV, Dt.wIf, Dt.wCall, Dt.wLst, Dt.wTup, Dt.wLc, Dt.wForS, Dt.wItems, Dt.wEn, Dt.wZi, Dt.wRg1, Dt.wRg2, Dt.wSl, Dt.oNone, Dt.oSome, Dt.wJoin, Dt.wSplit, Dt.wDisp, Dt.psCons, Dt.psNil, Dt.wBor, Dt.wBorT, Dt.wBorF, Dt.wDrop, Dt.wNeg, Dt.wInt, Dt.wCh, Dt.wStar, Dt.wStA, Dt.gU, Dt.wRev, Dt.wProp, Dt.wFld, Dt.wRaise0, Dt.wRaise1, Dt.wApp, Dt.wSetI, Dt.wPutI, Dt.ownL, Dt.ownM, Dt.wCallD, Dt.wCallK, Dt.mPre, Dt.mSto, Dt.mNil, Dt.asB, Dt.asI, Dt.asS, Dt.asK, Dt.asL, Dt.truW, Dt.addW, Dt.addF, Dt.subW, Dt.iiW, Dt.ciW, Dt.ltW, Dt.leW, Dt.gtW, Dt.geW, Dt.mulW, Dt.fdivW, Dt.modW, Dt.iltW, Dt.iltW.iiB, Dt.ileW, Dt.ixW, Dt.slW, Dt.slF, Dt.lenW, Dt.intW, Dt.absW, Dt.ii2, Dt.listW, Dt.tupleW, Dt.dictW, Dt.inW, Dt.notInW, Dt.isNW, Dt.isNotNW, Dt.isN, Dt.lenOW, Dt.eqW_ii, Dt.neW_ii, Dt.eqW_bb, Dt.eqW_ss, Dt.neW_ss, Dt.isK_non_bool, Dt.isK_non_int, Dt.isK_non_str, Dt.isK_non_list, Dt.isK_non_tuple, Dt.isK_non_dict, Dt.isK_bl_bool, Dt.isK_bl_int, Dt.isK_bl_str, Dt.isK_bl_list, Dt.isK_bl_tuple, Dt.isK_bl_dict, Dt.isK_int_bool, Dt.isK_int_int, Dt.isK_int_str, Dt.isK_int_list, Dt.isK_int_tuple, Dt.isK_int_dict, Dt.isK_str_bool, Dt.isK_str_int, Dt.isK_str_str, Dt.isK_str_list, Dt.isK_str_tuple, Dt.isK_str_dict, Dt.isK_lst_bool, Dt.isK_lst_int, Dt.isK_lst_str, Dt.isK_lst_list, Dt.isK_lst_tuple, Dt.isK_lst_dict, Dt.isK_tup_bool, Dt.isK_tup_int, Dt.isK_tup_str, Dt.isK_tup_list, Dt.isK_tup_tuple, Dt.isK_tup_dict, Dt.isK_dct_bool, Dt.isK_dct_int, Dt.isK_dct_str, Dt.isK_dct_list, Dt.isK_dct_tuple, Dt.isK_dct_dict, Dt.isK_ins_bool, Dt.isK_ins_int, Dt.isK_ins_str, Dt.isK_ins_list, Dt.isK_ins_tuple, Dt.isK_ins_dict, Dt.gN, Dt.gT, Dt.gsCons, Dt.gsNil, Dt.δ0, Dt.frz, Dt.wipeD, Dt.keyD, Dt.De0, List.map_cons, List.map_nil, List.length_cons, List.length_nil, List.replicate_succ, List.replicate_zero, List.cons_append, List.nil_append, List.getElem?_cons_zero, List.getElem?_cons_succ, List.set_cons_zero, List.set_cons_succ, Nat.reduceSub, Nat.reduceAdd, Nat.zero_add, reduceIte, Bool.not_true, Bool.not_false, Bool.false_eq_true, Bool.not_eq_true, Bool.true_eq_false, true_and, and_true, ne_eq, decide_eq_true_eq, Bool.not_eq_eq_eq_not, decide_eq_false_iff_not, Option.isSome_some, Option.isSome_none, Bool.or_eq_true, Bool.and_eq_true]
    refine ⟨rfl, by rw [sizeLine_eq]; omega, ?_⟩
    rw [hs]
    simp only [Dt.wSeq, Dt.wIfS, Dt.wRet, Dt.wSet, Dt.wOwn, Dt.wAsg, Dt.wPar2, Dt.wPar3, Dt.xV, Dt.xO, Dt.wVar, Dt.wC, Dt.wCB, Dt.wCons, Dt.wNil, Dt.wOp, Dt.wTru, Dt.wB, Dt.wNot, Dt.wAnd, Dt.wOr, Dt.wV, Dt.wAndV, Dt.wOrV, Dt.wNotV, Dt.wIf, Dt.wCall, Dt.wLst, Dt.wTup, Dt.wLc, Dt.wForS, Dt.wItems, Dt.wEn, Dt.wZi, Dt.wRg1, Dt.wRg2, Dt.wSl, Dt.oNone, Dt.oSome, Dt.wJoin, Dt.wSplit, Dt.wDisp, Dt.psCons, Dt.psNil, Dt.wBor, Dt.wBorT, Dt.wBorF, Dt.wDrop, Dt.wNeg, Dt.wInt, Dt.wCh, Dt.wStar, Dt.wStA, Dt.gU, Dt.wRev, Dt.wProp, Dt.wFld, Dt.wRaise0, Dt.wRaise1, Dt.wApp, Dt.wSetI, Dt.wPutI, Dt.ownL, Dt.ownM, Dt.wCallD, Dt.wCallK, Dt.mPre, Dt.mSto, Dt.mNil, Dt.asB, Dt.asI, Dt.asS, Dt.asK, Dt.asL, Dt.truW, Dt.addW, Dt.addF, Dt.subW, Dt.iiW, Dt.ciW, Dt.ltW, Dt.leW, Dt.gtW, Dt.geW, Dt.mulW, Dt.fdivW, Dt.modW, Dt.iltW, Dt.iltW.iiB, Dt.ileW, Dt.ixW, Dt.slW, Dt.slF, Dt.lenW, Dt.intW, Dt.absW, Dt.ii2, Dt.listW, Dt.tupleW, Dt.dictW, Dt.inW, Dt.notInW, Dt.isNW, Dt.isNotNW, Dt.isN, Dt.lenOW, Dt.eqW_ii, Dt.neW_ii, Dt.eqW_bb, Dt.eqW_ss, Dt.neW_ss, Dt.isK_non_bool, Dt.isK_non_int, Dt.isK_non_str, Dt.isK_non_list, Dt.isK_non_tuple, Dt.isK_non_dict, Dt.isK_bl_bool, Dt.isK_bl_int, Dt.isK_bl_str, Dt.isK_bl_list, Dt.isK_bl_tuple, Dt.isK_bl_dict, Dt.isK_int_bool, Dt.isK_int_int, Dt.isK_int_str, Dt.isK_int_list, Dt.isK_int_tuple, Dt.isK_int_dict, Dt.isK_str_bool, Dt.isK_str_int, Dt.isK_str_str, Dt.isK_str_list, Dt.isK_str_tuple, Dt.isK_str_dict, Dt.isK_lst_bool, Dt.isK_lst_int, Dt.isK_lst_str, Dt.isK_lst_list, Dt.isK_lst_tuple, Dt.isK_lst_dict, Dt.isK_tup_bool, Dt.isK_tup_int, Dt.isK_tup_str, Dt.isK_tup_list, Dt.isK_tup_tuple, Dt.isK_tup_dict, Dt.isK_dct_bool, Dt.isK_dct_int, Dt.isK_dct_str, Dt.isK_dct_list, Dt.isK_dct_tuple, Dt.isK_dct_dict, Dt.isK_ins_bool, Dt.isK_ins_int, Dt.isK_ins_str, Dt.isK_ins_list, Dt.isK_ins_tuple, Dt.isK_ins_dict, Dt.gN, Dt.gT, Dt.gsCons, Dt.gsNil, Dt.δ0, Dt.frz, Dt.wipeD, Dt.keyD, Dt.De0, List.map_cons, List.map_nil, List.length_cons, List.length_nil, List.replicate_succ, List.replicate_zero, List.cons_append, List.nil_append, List.getElem?_cons_zero, List.getElem?_cons_succ, List.set_cons_zero, List.set_cons_succ, Nat.reduceSub, Nat.reduceAdd, Nat.zero_add, reduceIte, Bool.not_true, Bool.not_false, Bool.false_eq_true, Bool.not_eq_true, Bool.true_eq_false, true_and, and_true, ne_eq, decide_eq_true_eq, Bool.not_eq_eq_eq_not, decide_eq_false_iff_not, Option.isSome_some, Option.isSome_none, Bool.or_eq_true, Bool.and_eq_true]
    refine ⟨by omega, ?_⟩
    simp only [List.take_succ_cons, List.take_zero, List.drop_succ_cons, List.drop_zero, List.cons_append, List.nil_append, List.length_map, Dt.wSeq, Dt.wIfS, Dt.wRet, Dt.wSet, Dt.wOwn, Dt.wAsg, Dt.wPar2, Dt.wPar3, Dt.xV, Dt.xO, Dt.wVar, Dt.wC, Dt.wCB, Dt.wCons, Dt.wNil, Dt.wOp, Dt.wTru, Dt.wB, Dt.wNot, Dt.wAnd, Dt.wOr, Dt.wV, Dt.wAndV, Dt.wOrV, Dt.wNotV, Dt.wIf, Dt.wCall, Dt.wLst, Dt.wTup, Dt.wLc, Dt.wForS, Dt.wItems, Dt.wEn, Dt.wZi, Dt.wRg1, Dt.wRg2, Dt.wSl, Dt.oNone, Dt.oSome, Dt.wJoin, Dt.wSplit, Dt.wDisp, Dt.psCons, Dt.psNil, Dt.wBor, Dt.wBorT, Dt.wBorF, Dt.wDrop, Dt.wNeg, Dt.wInt, Dt.wCh, Dt.wStar, Dt.wStA, Dt.gU, Dt.wRev, Dt.wProp, Dt.wFld, Dt.wRaise0, Dt.wRaise1, Dt.wApp, Dt.wSetI, Dt.wPutI, Dt.ownL, Dt.ownM, Dt.wCallD, Dt.wCallK, Dt.mPre, Dt.mSto, Dt.mNil, Dt.asB, Dt.asI, Dt.asS, Dt.asK, Dt.asL, Dt.truW, Dt.addW, Dt.addF, Dt.subW, Dt.iiW, Dt.ciW, Dt.ltW, Dt.leW, Dt.gtW, Dt.geW, Dt.mulW, Dt.fdivW, Dt.modW, Dt.iltW, Dt.iltW.iiB, Dt.ileW, Dt.ixW, Dt.slW, Dt.slF, Dt.lenW, Dt.intW, Dt.absW, Dt.ii2, Dt.listW, Dt.tupleW, Dt.dictW, Dt.inW, Dt.notInW, Dt.isNW, Dt.isNotNW, Dt.isN, Dt.lenOW, Dt.eqW_ii, Dt.neW_ii, Dt.eqW_bb, Dt.eqW_ss, Dt.neW_ss, Dt.isK_non_bool, Dt.isK_non_int, Dt.isK_non_str, Dt.isK_non_list, Dt.isK_non_tuple, Dt.isK_non_dict, Dt.isK_bl_bool, Dt.isK_bl_int, Dt.isK_bl_str, Dt.isK_bl_list, Dt.isK_bl_tuple, Dt.isK_bl_dict, Dt.isK_int_bool, Dt.isK_int_int, Dt.isK_int_str, Dt.isK_int_list, Dt.isK_int_tuple, Dt.isK_int_dict, Dt.isK_str_bool, Dt.isK_str_int, Dt.isK_str_str, Dt.isK_str_list, Dt.isK_str_tuple, Dt.isK_str_dict, Dt.isK_lst_bool, Dt.isK_lst_int, Dt.isK_lst_str, Dt.isK_lst_list, Dt.isK_lst_tuple, Dt.isK_lst_dict, Dt.isK_tup_bool, Dt.isK_tup_int, Dt.isK_tup_str, Dt.isK_tup_list, Dt.isK_tup_tuple, Dt.isK_tup_dict, Dt.isK_dct_bool, Dt.isK_dct_int, Dt.isK_dct_str, Dt.isK_dct_list, Dt.isK_dct_tuple, Dt.isK_dct_dict, Dt.isK_ins_bool, Dt.isK_ins_int, Dt.isK_ins_str, Dt.isK_ins_list, Dt.isK_ins_tuple, Dt.isK_ins_dict, Dt.gN, Dt.gT, Dt.gsCons, Dt.gsNil, Dt.δ0, Dt.frz, Dt.wipeD, Dt.keyD, Dt.De0, List.map_cons, List.map_nil, List.length_cons, List.length_nil, List.replicate_succ, List.replicate_zero, List.cons_append, List.nil_append, List.getElem?_cons_zero, List.getElem?_cons_succ, List.set_cons_zero, List.set_cons_succ, Nat.reduceSub, Nat.reduceAdd, Nat.zero_add, reduceIte, Bool.not_true, Bool.not_false, Bool.false_eq_true, Bool.not_eq_true, Bool.true_eq_false, true_and, and_true, ne_eq, decide_eq_true_eq, Bool.not_eq_eq_eq_not, decide_eq_false_iff_not, Option.isSome_some, Option.isSome_none, Bool.or_eq_true, Bool.and_eq_true]
    have e1 : ns.length + 1 + 1 - 2 = (ns.map D.str).length := by rw [List.length_map]; omega
    rw [e1, List.take_length, List.drop_length]
    simp only [Dt.wSeq, Dt.wIfS, Dt.wRet, Dt.wSet, Dt.wOwn, Dt.wAsg, Dt.wPar2, Dt.wPar3, Dt.xV, Dt.xO, Dt.wVar, Dt.wC, Dt.wCB, Dt.wCons, Dt.wNil, Dt.wOp, Dt.wTru, Dt.wB, Dt.wNot, Dt.wAnd, Dt.wOr, Dt.wV, Dt.wAndV, Dt.wOrV, Dt.wNotV, Dt.wIf, Dt.wCall, Dt.wLst, Dt.wTup, Dt.wLc, Dt.wForS, Dt.wItems, Dt.wEn, Dt.wZi, Dt.wRg1, Dt.wRg2, Dt.wSl, Dt.oNone, Dt.oSome, Dt.wJoin, Dt.wSplit, Dt.wDisp, Dt.psCons, Dt.psNil, Dt.wBor, Dt.wBorT, Dt.wBorF, Dt.wDrop, Dt.wNeg, Dt.wInt, Dt.wCh, Dt.wStar, Dt.wStA, Dt.gU, Dt.wRev, Dt.wProp, Dt.wFld, Dt.wRaise0, Dt.wRaise1, Dt.wApp, Dt.wSetI, Dt.wPutI, Dt.ownL, Dt.ownM, Dt.wCallD, Dt.wCallK, Dt.mPre, Dt.mSto, Dt.mNil, Dt.asB, Dt.asI, Dt.asS, Dt.asK, Dt.asL, Dt.truW, Dt.addW, Dt.addF, Dt.subW, Dt.iiW, Dt.ciW, Dt.ltW, Dt.leW, Dt.gtW, Dt.geW, Dt.mulW, Dt.fdivW, Dt.modW, Dt.iltW, Dt.iltW.iiB, Dt.ileW, Dt.ixW, Dt.slW, Dt.slF, Dt.lenW, Dt.intW, Dt.absW, Dt.ii2, Dt.listW, Dt.tupleW, Dt.dictW, Dt.inW, Dt.notInW, Dt.isNW, Dt.isNotNW, Dt.isN, Dt.lenOW, Dt.eqW_ii, Dt.neW_ii, Dt.eqW_bb, Dt.eqW_ss, Dt.neW_ss, Dt.isK_non_bool, Dt.isK_non_int, Dt.isK_non_str, Dt.isK_non_list, Dt.isK_non_tuple, Dt.isK_non_dict, Dt.isK_bl_bool, Dt.isK_bl_int, Dt.isK_bl_str, Dt.isK_bl_list, Dt.isK_bl_tuple, Dt.isK_bl_dict, Dt.isK_int_bool, Dt.isK_int_int, Dt.isK_int_str, Dt.isK_int_list, Dt.isK_int_tuple, Dt.isK_int_dict, Dt.isK_str_bool, Dt.isK_str_int, Dt.isK_str_str, Dt.isK_str_list, Dt.isK_str_tuple, Dt.isK_str_dict, Dt.isK_lst_bool, Dt.isK_lst_int, Dt.isK_lst_str, Dt.isK_lst_list, Dt.isK_lst_tuple, Dt.isK_lst_dict, Dt.isK_tup_bool, Dt.isK_tup_int, Dt.isK_tup_str, Dt.isK_tup_list, Dt.isK_tup_tuple, Dt.isK_tup_dict, Dt.isK_dct_bool, Dt.isK_dct_int, Dt.isK_dct_str, Dt.isK_dct_list, Dt.isK_dct_tuple, Dt.isK_dct_dict, Dt.isK_ins_bool, Dt.isK_ins_int, Dt.isK_ins_str, Dt.isK_ins_list, Dt.isK_ins_tuple, Dt.isK_ins_dict, Dt.gN, Dt.gT, Dt.gsCons, Dt.gsNil, Dt.δ0, Dt.frz, Dt.wipeD, Dt.keyD, Dt.De0, List.map_cons, List.map_nil, List.length_cons, List.length_nil, List.replicate_succ, List.replicate_zero, List.cons_append, List.nil_append, List.getElem?_cons_zero, List.getElem?_cons_succ, List.set_cons_zero, List.set_cons_succ, Nat.reduceSub, Nat.reduceAdd, Nat.zero_add, reduceIte, Bool.not_true, Bool.not_false, Bool.false_eq_true, Bool.not_eq_true, Bool.true_eq_false, true_and, and_true, ne_eq, decide_eq_true_eq, Bool.not_eq_eq_eq_not, decide_eq_false_iff_not, Option.isSome_some, Option.isSome_none, Bool.or_eq_true, Bool.and_eq_true]
    exact names_in_tail h1 h2 hi hs h3
def w_read_record_l0_s4 (K : PySem.W.Frag) : WS := (wSeq (wIfS (wBorT (wNot (wTru (wCall (cf_is_report K) (wCons (wOp ixW (wVar 3) (wC (.int 0))) (wCons (wOp ixW (wVar 3) (wC (.int 1))) (wCons (wTup (wCons (wVar 8) (wCons (wVar 9) (wCons (wVar 11) (wCons (wVar 10) wNil))))) wNil))))))) (wRaise1 (He.ga K "BadText") "line" (wVar 5)) (fun _ De n δ => De.nx n δ)) (wApp 4 (wTup (wCons (wVar 8) (wCons (wVar 9) (wCons (wVar 11) (wCons (wVar 10) wNil)))))))
def w_read_record_l0_s3 (K : PySem.W.Frag) : WS := (wSeq (wAsg (wVar 7) (gU 4 (gsCons (gN 8) (gsCons (gN 9) (gsCons (gN 10) (gsCons (gN 11) gsNil)))))) (w_read_record_l0_s4 K))
def w_read_record_l0_s2 (K : PySem.W.Frag) : WS := (wSeq (wIfS (wBorT (wOr (wB (wOp neW (wCB lenW (wCons (wVar 7) wNil)) (wC (.int 4)))) (wB (wOp eqW (wCB lenW (wCons (wVar 4) wNil)) (wC (.int 30)))))) (wRaise1 (He.ga K "BadText") "line" (wVar 5)) (fun _ De n δ => De.nx n δ)) (w_read_record_l0_s3 K))
def w_read_record_l0_s1 (K : PySem.W.Frag) : WS := (wSeq (wSet 7 (wSplit (wVar 6) (wC (.str " ")))) (w_read_record_l0_s2 K))
def w_read_record_b0 (K : PySem.W.Frag) : WS := (wSeq (wIfS (wB (wOp ltW (wVar 5) (wCB lenW (wCons (wC (.tup [(.tup [(.str "observers"), (.int 1), (.int 4)]), (.tup [(.str "things"), (.int 2), (.int 8)])])) wNil)))) (wSeq (wApp 3 (wCall (cf_names_in K) (wCons (wVar 6) (wCons (wVar 5) wNil)))) (fun _ De n δ => De.ct n δ)) (fun _ De n δ => De.nx n δ)) (w_read_record_l0_s1 K))
def w_read_record_s4 (K : PySem.W.Frag) : WS := (wSeq (wIfS (wOr (wB (wOp neW (wVar 2) (wC (.str "")))) (wB (wOp ltW (wCB lenW (wCons (wVar 1) wNil)) (wCB lenW (wCons (wC (.tup [(.tup [(.str "observers"), (.int 1), (.int 4)]), (.tup [(.str "things"), (.int 2), (.int 8)])])) wNil))))) (wRaise1 (He.ga K "BadText") "line" (wCB lenW (wCons (wVar 1) wNil))) (fun _ De n δ => De.nx n δ)) (wRet (wCall (cf_Record K) (wCons (wOp ixW (wVar 3) (wC (.int 0))) (wCons (wOp ixW (wVar 3) (wC (.int 1))) (wCons (wVar 4) wNil))))))
def w_read_record_s3 (K : PySem.W.Frag) : WS := (wSeq (wForS (wEn (wCons (wVar 1) wNil)) (gT 2 (gsCons (gN 5) (gsCons (gN 6) gsNil))) (w_read_record_b0 K)) (w_read_record_s4 K))
def w_read_record_s2 (K : PySem.W.Frag) : WS := (wSeq (wPar2 3 4 (xO (wLst wNil)) (xO (wLst wNil))) (w_read_record_s3 K))
def w_read_record_s1 (K : PySem.W.Frag) : WS := (wSeq (wStA 2 0 (wSplit (wVar 0) (wC (.str "\n"))) (gsCons (gN 1) (gsCons (gN 2) gsNil))) (w_read_record_s2 K))
def w_read_record (K : PySem.W.Frag) : WS := (wSeq (wIfS (wNot (wTru (wCB (isiXW K) (wCons (wVar 0) (wCons (wC (.obj (.ty "str"))) wNil))))) (wRaise1 (He.ga K "BadText") "line" (wC (.int 0))) (fun _ De n δ => De.nx n δ)) (w_read_record_s1 K))
-- slots of read_record: 0 text, 1 lines, 2 rest, 3 names, 4 reports, 5 at, 6 line, 7 words, 8 observer, 9 one, 10 answer, 11 other
def readGo : Nat → List (List Str) → List Rp → List Str → Except Nat (List (List Str) × List Rp)
  | _, ns, rs, [] => .ok (ns, rs)
  | i, ns, rs, l :: ls =>
    if i < 2 then (match nameLine i l with
      | some n => readGo (i + 1) (ns ++ [n]) rs ls
      | none => .error i)
    else if rs.length = 30 then .error i else (match Txt.split l " " with
      | [o, a, w, b] => if isRp (ns.getD 0 []) (ns.getD 1 []) (rpD ⟨o, a, b, w⟩) = true then readGo (i + 1) ns (rs ++ [⟨o, a, b, w⟩]) ls else .error i
      | _ => .error i)
def readT (x : Str) : Except Nat Rec :=
  let ls := (Txt.split x "\n").dropLast
  let rest := (Txt.split x "\n").getLastD ""
  match readGo 0 [] [] ls with
  | .error i => .error i
  | .ok (ns, rs) => if rest ≠ "" ∨ ls.length < 2 then .error ls.length else .ok ⟨ns.getD 0 [], ns.getD 1 [], rs⟩
def readP (K : PySem.W.Frag) (c : Ct) (n : Nat) (P : Nat → D → Prop) : Except Nat Rec → Prop
  | .ok r => P n (recD K r)
  | .error i => c.ex n ⟨.ref (He.ga K "BadText"), some [("line", .int (i : Nat))]⟩
def cf_read_record (K : PySem.W.Frag) : Con := fun c n ds P => match ds with
  | [d] => (∃ x, d = .str x ∧ PyData.strOk x = true ∧ x.length ≤ 100000 ∧ readP K c n P (readT x)) ∨ (AV1 K d ∧ isK d "str" = false ∧ c.ex n ⟨.ref (He.ga K "BadText"), some [("line", .int 0)]⟩)
  | _ => False
abbrev nmD (ns : List (List Str)) : D := .lst (ns.map fun x => .lst (x.map .str))
structure RdOk (i : Nat) (ns : List (List Str)) (rs : List Rp) : Prop where
  l : ns.length = min i 2
  n : ∀ j (h : j < ns.length), ∃ line, nameLine j line = some ns[j]
  rl : rs.length ≤ 30
  rp : ∀ p ∈ rs, p.ok (ns.getD 0 []) (ns.getD 1 [])
theorem nameLine_ok {j : Nat} {line : Str} {ns : List Str} (h : nameLine j line = some ns) : areNm (.lst (ns.map .str)) (headLo j) (headHi j) = true ∧ ns = sortS ns := by
  unfold nameLine at h
  split at h
  · split at h
    · rename_i w ns' _ hh
      cases h
      exact ⟨hh.2.1, hh.2.2⟩
    · cases h
  · cases h
theorem nameLine_names {j : Nat} {line : Str} {ns : List Str} (h : nameLine j line = some ns) : (∀ s ∈ ns, nameB s = true) ∧ ns.Nodup ∧ headLo j ≤ ns.length ∧ (ns.length : Int) ≤ headHi j := by
  obtain ⟨ns', e1, e2, e3, e4, e5, e6⟩ := areNm_strs (nameLine_ok h).1
  have : ns' = ns := by rw [← e2]; exact nms_of rfl
  subst this
  exact ⟨e3, e4, e5, e6⟩
theorem RdOk.str {i : Nat} {ns : List (List Str)} {rs : List Rp} (r : RdOk i ns rs) (hi : 2 ≤ i) : ∃ a b, ns = [a, b] ∧ strS (.lst (a.map .str)) a ∧ strS (.lst (b.map .str)) b := by
  have l := r.l
  rw [Nat.min_eq_right hi] at l
  match ns, l, r.n with
  | [a, b], _, hn =>
    obtain ⟨_, h0⟩ := hn 0 (by simp)
    obtain ⟨_, h1⟩ := hn 1 (by simp)
    exact ⟨a, b, rfl, ⟨rfl, fun s hs => nameB_ok ((nameLine_names h0).1 s hs)⟩, ⟨rfl, fun s hs => nameB_ok ((nameLine_names h1).1 s hs)⟩⟩
theorem read_loop {K : PySem.W.Frag} {c : Ct} {De : DEnds} {n : Nat} {s0 s1 s2 : Sl} : ∀ (ls : List Str) (i : Nat) (ns : List (List Str)) (rs : List Rp) (s5 s6 s7 s8 s9 s10 s11 : Sl), RdOk i ns rs → (∀ l ∈ ls, PyData.strOk l = true ∧ l.length ≤ 100000) →
    (match readGo i ns rs ls with
      | .error j => c.ex n ⟨.ref (He.ga K "BadText"), some [("line", .int (j : Nat))]⟩
      | .ok (ns', rs') => RdOk (i + ls.length) ns' rs' → ∀ s5 s6 s7 s8 s9 s10 s11, De.nx n [s0, s1, s2, .o (nmD ns'), .o (.lst (rs'.map rpD)), s5, s6, s7, s8, s9, s10, s11]) →
    wFor (gT 2 (gsCons (gN 5) (gsCons (gN 6) gsNil))) (w_read_record_b0 K) c De (enF i (ls.map .str)) n [s0, s1, s2, .o (nmD ns), .o (.lst (rs.map rpD)), s5, s6, s7, s8, s9, s10, s11]
  | [], i, ns, rs, s5, s6, s7, s8, s9, s10, s11, hr, _, h => by
    simp only [readGo] at h
    exact h hr s5 s6 s7 s8 s9 s10 s11
  | l :: ls, i, ns, rs, s5, s6, s7, s8, s9, s10, s11, hr, hl, h => by
    have h0 := hl l (.head _)
    have hl' : ∀ l ∈ ls, PyData.strOk l = true ∧ l.length ≤ 100000 := fun y hy => hl y (.tail _ hy)
    have e0 : i + (l :: ls).length = i + 1 + ls.length := by rw [List.length_cons]; omega
    rw [e0] at h
    simp only [readGo] at h
    simp only [List.map_cons, enF, wFor, w_read_record_b0, Dt.wSeq, Dt.wIfS, Dt.wRet, Dt.wSet, Dt.wOwn, Dt.wAsg, Dt.wPar2, Dt.wPar3, Dt.xV, Dt.xO, Dt.wVar, Dt.wC, Dt.wCB, Dt.wCons, Dt.wNil, Dt.wOp, Dt.wTru, Dt.wB, Dt.wNot, Dt.wAnd, Dt.wOr, Dt.wV, Dt.wAndV, Dt.wOrV, Dt.wNotV, Dt.wIf, Dt.wCall, Dt.wLst, Dt.wTup, Dt.wLc, Dt.wForS, Dt.wItems, Dt.wEn, Dt.wZi, Dt.wRg1, Dt.wRg2, Dt.wSl, Dt.oNone, Dt.oSome, Dt.wJoin, Dt.wSplit, Dt.wDisp, Dt.psCons, Dt.psNil, Dt.wBor, Dt.wBorT, Dt.wBorF, Dt.wDrop, Dt.wNeg, Dt.wInt, Dt.wCh, Dt.wStar, Dt.wStA, Dt.gU, Dt.wRev, Dt.wProp, Dt.wFld, Dt.wRaise0, Dt.wRaise1, Dt.wApp, Dt.wSetI, Dt.wPutI, Dt.ownL, Dt.ownM, Dt.wCallD, Dt.wCallK, Dt.mPre, Dt.mSto, Dt.mNil, Dt.asB, Dt.asI, Dt.asS, Dt.asK, Dt.asL, Dt.truW, Dt.addW, Dt.addF, Dt.subW, Dt.iiW, Dt.ciW, Dt.ltW, Dt.leW, Dt.gtW, Dt.geW, Dt.mulW, Dt.fdivW, Dt.modW, Dt.iltW, Dt.iltW.iiB, Dt.ileW, Dt.ixW, Dt.slW, Dt.slF, Dt.lenW, Dt.intW, Dt.absW, Dt.ii2, Dt.listW, Dt.tupleW, Dt.dictW, Dt.inW, Dt.notInW, Dt.isNW, Dt.isNotNW, Dt.isN, Dt.lenOW, Dt.eqW_ii, Dt.neW_ii, Dt.eqW_bb, Dt.eqW_ss, Dt.neW_ss, Dt.isK_non_bool, Dt.isK_non_int, Dt.isK_non_str, Dt.isK_non_list, Dt.isK_non_tuple, Dt.isK_non_dict, Dt.isK_bl_bool, Dt.isK_bl_int, Dt.isK_bl_str, Dt.isK_bl_list, Dt.isK_bl_tuple, Dt.isK_bl_dict, Dt.isK_int_bool, Dt.isK_int_int, Dt.isK_int_str, Dt.isK_int_list, Dt.isK_int_tuple, Dt.isK_int_dict, Dt.isK_str_bool, Dt.isK_str_int, Dt.isK_str_str, Dt.isK_str_list, Dt.isK_str_tuple, Dt.isK_str_dict, Dt.isK_lst_bool, Dt.isK_lst_int, Dt.isK_lst_str, Dt.isK_lst_list, Dt.isK_lst_tuple, Dt.isK_lst_dict, Dt.isK_tup_bool, Dt.isK_tup_int, Dt.isK_tup_str, Dt.isK_tup_list, Dt.isK_tup_tuple, Dt.isK_tup_dict, Dt.isK_dct_bool, Dt.isK_dct_int, Dt.isK_dct_str, Dt.isK_dct_list, Dt.isK_dct_tuple, Dt.isK_dct_dict, Dt.isK_ins_bool, Dt.isK_ins_int, Dt.isK_ins_str, Dt.isK_ins_list, Dt.isK_ins_tuple, Dt.isK_ins_dict, Dt.gN, Dt.gT, Dt.gsCons, Dt.gsNil, Dt.δ0, Dt.frz, Dt.wipeD, Dt.keyD, Dt.De0, List.map_cons, List.map_nil, List.length_cons, List.length_nil, List.replicate_succ, List.replicate_zero, List.cons_append, List.nil_append, List.getElem?_cons_zero, List.getElem?_cons_succ, List.set_cons_zero, List.set_cons_succ, Nat.reduceSub, Nat.reduceAdd, Nat.zero_add, reduceIte, Bool.not_true, Bool.not_false, Bool.false_eq_true, Bool.not_eq_true, Bool.true_eq_false, true_and, and_true, ne_eq, decide_eq_true_eq, Bool.not_eq_eq_eq_not, decide_eq_false_iff_not, Option.isSome_some, Option.isSome_none, Bool.or_eq_true, Bool.and_eq_true]
    by_cases hi : i < 2
    · rw [if_pos hi] at h
      rw [if_pos (by omega)]
      refine ⟨by rw [sizeLine_eq, List.length_map, hr.l]; omega, ?_⟩
      have hi2 : (i : Int) = 0 ∨ (i : Int) = 1 := by omega
      refine ⟨h0.1, h0.2, hi2, ?_⟩
      rw [Int.toNat_natCast]
      cases q : nameLine i l with
      | none =>
        rw [q] at h
        exact h
      | some nn =>
        rw [q] at h
        simp only at h
        have e1 : ns.map (fun x => D.lst (x.map .str)) ++ [D.lst (nn.map .str)] = (ns ++ [nn]).map fun x => .lst (x.map .str) := by rw [List.map_append]; rfl
        simp only [e1]
        have hns : ns.length = i := by rw [hr.l]; omega
        refine read_loop ls (i + 1) (ns ++ [nn]) rs _ _ _ _ _ _ _ ⟨?_, ?_, hr.rl, ?_⟩ hl' h
        · rw [List.length_append, hr.l]
          simp only [List.length_cons, List.length_nil]
          omega
        · intro j hj
          by_cases hj2 : j < ns.length
          · rw [List.getElem_append_left hj2]
            exact hr.n j hj2
          · have : j = ns.length := by
              rw [List.length_append] at hj
              simp at hj
              omega
            subst this
            refine ⟨l, ?_⟩
            rw [List.getElem_append_right (Nat.le_refl _)]
            simp only [Nat.sub_self, List.getElem_cons_zero]
            rw [hns]
            exact q
        · intro p hp
          have := hr.rp p hp
          match ns, hns, this with
          | [], _, this => exact absurd this.o (by simp)
          | [a], _, this => exact absurd this.a (by simp)
          | a :: b :: r, hns, _ =>
            simp only [List.length_cons] at hns
            omega
    · rw [if_neg hi] at h
      rw [if_neg (by omega)]
      obtain ⟨na, nb, rfl, sa, sb⟩ := hr.str (by omega)
      simp only [w_read_record_l0_s1, Dt.wSeq, Dt.wIfS, Dt.wRet, Dt.wSet, Dt.wOwn, Dt.wAsg, Dt.wPar2, Dt.wPar3, Dt.xV, Dt.xO, Dt.wVar, Dt.wC, Dt.wCB, Dt.wCons, Dt.wNil, Dt.wOp, Dt.wTru, Dt.wB, Dt.wNot, Dt.wAnd, Dt.wOr, Dt.wV, Dt.wAndV, Dt.wOrV, Dt.wNotV, Dt.wIf, Dt.wCall, Dt.wLst, Dt.wTup, Dt.wLc, Dt.wForS, Dt.wItems, Dt.wEn, Dt.wZi, Dt.wRg1, Dt.wRg2, Dt.wSl, Dt.oNone, Dt.oSome, Dt.wJoin, Dt.wSplit, Dt.wDisp, Dt.psCons, Dt.psNil, Dt.wBor, Dt.wBorT, Dt.wBorF, Dt.wDrop, Dt.wNeg, Dt.wInt, Dt.wCh, Dt.wStar, Dt.wStA, Dt.gU, Dt.wRev, Dt.wProp, Dt.wFld, Dt.wRaise0, Dt.wRaise1, Dt.wApp, Dt.wSetI, Dt.wPutI, Dt.ownL, Dt.ownM, Dt.wCallD, Dt.wCallK, Dt.mPre, Dt.mSto, Dt.mNil, Dt.asB, Dt.asI, Dt.asS, Dt.asK, Dt.asL, Dt.truW, Dt.addW, Dt.addF, Dt.subW, Dt.iiW, Dt.ciW, Dt.ltW, Dt.leW, Dt.gtW, Dt.geW, Dt.mulW, Dt.fdivW, Dt.modW, Dt.iltW, Dt.iltW.iiB, Dt.ileW, Dt.ixW, Dt.slW, Dt.slF, Dt.lenW, Dt.intW, Dt.absW, Dt.ii2, Dt.listW, Dt.tupleW, Dt.dictW, Dt.inW, Dt.notInW, Dt.isNW, Dt.isNotNW, Dt.isN, Dt.lenOW, Dt.eqW_ii, Dt.neW_ii, Dt.eqW_bb, Dt.eqW_ss, Dt.neW_ss, Dt.isK_non_bool, Dt.isK_non_int, Dt.isK_non_str, Dt.isK_non_list, Dt.isK_non_tuple, Dt.isK_non_dict, Dt.isK_bl_bool, Dt.isK_bl_int, Dt.isK_bl_str, Dt.isK_bl_list, Dt.isK_bl_tuple, Dt.isK_bl_dict, Dt.isK_int_bool, Dt.isK_int_int, Dt.isK_int_str, Dt.isK_int_list, Dt.isK_int_tuple, Dt.isK_int_dict, Dt.isK_str_bool, Dt.isK_str_int, Dt.isK_str_str, Dt.isK_str_list, Dt.isK_str_tuple, Dt.isK_str_dict, Dt.isK_lst_bool, Dt.isK_lst_int, Dt.isK_lst_str, Dt.isK_lst_list, Dt.isK_lst_tuple, Dt.isK_lst_dict, Dt.isK_tup_bool, Dt.isK_tup_int, Dt.isK_tup_str, Dt.isK_tup_list, Dt.isK_tup_tuple, Dt.isK_tup_dict, Dt.isK_dct_bool, Dt.isK_dct_int, Dt.isK_dct_str, Dt.isK_dct_list, Dt.isK_dct_tuple, Dt.isK_dct_dict, Dt.isK_ins_bool, Dt.isK_ins_int, Dt.isK_ins_str, Dt.isK_ins_list, Dt.isK_ins_tuple, Dt.isK_ins_dict, Dt.gN, Dt.gT, Dt.gsCons, Dt.gsNil, Dt.δ0, Dt.frz, Dt.wipeD, Dt.keyD, Dt.De0, List.map_cons, List.map_nil, List.length_cons, List.length_nil, List.replicate_succ, List.replicate_zero, List.cons_append, List.nil_append, List.getElem?_cons_zero, List.getElem?_cons_succ, List.set_cons_zero, List.set_cons_succ, Nat.reduceSub, Nat.reduceAdd, Nat.zero_add, reduceIte, Bool.not_true, Bool.not_false, Bool.false_eq_true, Bool.not_eq_true, Bool.true_eq_false, true_and, and_true, ne_eq, decide_eq_true_eq, Bool.not_eq_eq_eq_not, decide_eq_false_iff_not, Option.isSome_some, Option.isSome_none, Bool.or_eq_true, Bool.and_eq_true]
      refine ⟨rfl, by rw [sizeLine_eq]; omega, ?_⟩
      simp only [w_read_record_l0_s2, List.length_map, Dt.wSeq, Dt.wIfS, Dt.wRet, Dt.wSet, Dt.wOwn, Dt.wAsg, Dt.wPar2, Dt.wPar3, Dt.xV, Dt.xO, Dt.wVar, Dt.wC, Dt.wCB, Dt.wCons, Dt.wNil, Dt.wOp, Dt.wTru, Dt.wB, Dt.wNot, Dt.wAnd, Dt.wOr, Dt.wV, Dt.wAndV, Dt.wOrV, Dt.wNotV, Dt.wIf, Dt.wCall, Dt.wLst, Dt.wTup, Dt.wLc, Dt.wForS, Dt.wItems, Dt.wEn, Dt.wZi, Dt.wRg1, Dt.wRg2, Dt.wSl, Dt.oNone, Dt.oSome, Dt.wJoin, Dt.wSplit, Dt.wDisp, Dt.psCons, Dt.psNil, Dt.wBor, Dt.wBorT, Dt.wBorF, Dt.wDrop, Dt.wNeg, Dt.wInt, Dt.wCh, Dt.wStar, Dt.wStA, Dt.gU, Dt.wRev, Dt.wProp, Dt.wFld, Dt.wRaise0, Dt.wRaise1, Dt.wApp, Dt.wSetI, Dt.wPutI, Dt.ownL, Dt.ownM, Dt.wCallD, Dt.wCallK, Dt.mPre, Dt.mSto, Dt.mNil, Dt.asB, Dt.asI, Dt.asS, Dt.asK, Dt.asL, Dt.truW, Dt.addW, Dt.addF, Dt.subW, Dt.iiW, Dt.ciW, Dt.ltW, Dt.leW, Dt.gtW, Dt.geW, Dt.mulW, Dt.fdivW, Dt.modW, Dt.iltW, Dt.iltW.iiB, Dt.ileW, Dt.ixW, Dt.slW, Dt.slF, Dt.lenW, Dt.intW, Dt.absW, Dt.ii2, Dt.listW, Dt.tupleW, Dt.dictW, Dt.inW, Dt.notInW, Dt.isNW, Dt.isNotNW, Dt.isN, Dt.lenOW, Dt.eqW_ii, Dt.neW_ii, Dt.eqW_bb, Dt.eqW_ss, Dt.neW_ss, Dt.isK_non_bool, Dt.isK_non_int, Dt.isK_non_str, Dt.isK_non_list, Dt.isK_non_tuple, Dt.isK_non_dict, Dt.isK_bl_bool, Dt.isK_bl_int, Dt.isK_bl_str, Dt.isK_bl_list, Dt.isK_bl_tuple, Dt.isK_bl_dict, Dt.isK_int_bool, Dt.isK_int_int, Dt.isK_int_str, Dt.isK_int_list, Dt.isK_int_tuple, Dt.isK_int_dict, Dt.isK_str_bool, Dt.isK_str_int, Dt.isK_str_str, Dt.isK_str_list, Dt.isK_str_tuple, Dt.isK_str_dict, Dt.isK_lst_bool, Dt.isK_lst_int, Dt.isK_lst_str, Dt.isK_lst_list, Dt.isK_lst_tuple, Dt.isK_lst_dict, Dt.isK_tup_bool, Dt.isK_tup_int, Dt.isK_tup_str, Dt.isK_tup_list, Dt.isK_tup_tuple, Dt.isK_tup_dict, Dt.isK_dct_bool, Dt.isK_dct_int, Dt.isK_dct_str, Dt.isK_dct_list, Dt.isK_dct_tuple, Dt.isK_dct_dict, Dt.isK_ins_bool, Dt.isK_ins_int, Dt.isK_ins_str, Dt.isK_ins_list, Dt.isK_ins_tuple, Dt.isK_ins_dict, Dt.gN, Dt.gT, Dt.gsCons, Dt.gsNil, Dt.δ0, Dt.frz, Dt.wipeD, Dt.keyD, Dt.De0, List.map_cons, List.map_nil, List.length_cons, List.length_nil, List.replicate_succ, List.replicate_zero, List.cons_append, List.nil_append, List.getElem?_cons_zero, List.getElem?_cons_succ, List.set_cons_zero, List.set_cons_succ, Nat.reduceSub, Nat.reduceAdd, Nat.zero_add, reduceIte, Bool.not_true, Bool.not_false, Bool.false_eq_true, Bool.not_eq_true, Bool.true_eq_false, true_and, and_true, ne_eq, decide_eq_true_eq, Bool.not_eq_eq_eq_not, decide_eq_false_iff_not, Option.isSome_some, Option.isSome_none, Bool.or_eq_true, Bool.and_eq_true]
      have hw : ∀ s ∈ Txt.split l " ", PyData.strOk s = true ∧ s.length ≤ 1000000 := fun s hs => ⟨part_ok hs h0.1, Nat.le_trans (part_len hs) (by omega)⟩
      by_cases h4 : (Txt.split l " ").length = 4
      · rw [if_neg (by omega)]
        by_cases h30 : rs.length = 30
        · rw [if_pos h30] at h
          rw [if_pos (by omega)]
          exact h
        · rw [if_neg h30] at h
          rw [if_neg (by omega)]
          match q : Txt.split l " ", h4 with
          | [o, a, w, b], _ =>
            rw [q] at h hw
            simp only at h
            have av : ∀ s ∈ [o, a, w, b], AV1 K (.str s) := hw
            simp only [w_read_record_l0_s3, w_read_record_l0_s4, cf_is_report, Dt.wSeq, Dt.wIfS, Dt.wRet, Dt.wSet, Dt.wOwn, Dt.wAsg, Dt.wPar2, Dt.wPar3, Dt.xV, Dt.xO, Dt.wVar, Dt.wC, Dt.wCB, Dt.wCons, Dt.wNil, Dt.wOp, Dt.wTru, Dt.wB, Dt.wNot, Dt.wAnd, Dt.wOr, Dt.wV, Dt.wAndV, Dt.wOrV, Dt.wNotV, Dt.wIf, Dt.wCall, Dt.wLst, Dt.wTup, Dt.wLc, Dt.wForS, Dt.wItems, Dt.wEn, Dt.wZi, Dt.wRg1, Dt.wRg2, Dt.wSl, Dt.oNone, Dt.oSome, Dt.wJoin, Dt.wSplit, Dt.wDisp, Dt.psCons, Dt.psNil, Dt.wBor, Dt.wBorT, Dt.wBorF, Dt.wDrop, Dt.wNeg, Dt.wInt, Dt.wCh, Dt.wStar, Dt.wStA, Dt.gU, Dt.wRev, Dt.wProp, Dt.wFld, Dt.wRaise0, Dt.wRaise1, Dt.wApp, Dt.wSetI, Dt.wPutI, Dt.ownL, Dt.ownM, Dt.wCallD, Dt.wCallK, Dt.mPre, Dt.mSto, Dt.mNil, Dt.asB, Dt.asI, Dt.asS, Dt.asK, Dt.asL, Dt.truW, Dt.addW, Dt.addF, Dt.subW, Dt.iiW, Dt.ciW, Dt.ltW, Dt.leW, Dt.gtW, Dt.geW, Dt.mulW, Dt.fdivW, Dt.modW, Dt.iltW, Dt.iltW.iiB, Dt.ileW, Dt.ixW, Dt.slW, Dt.slF, Dt.lenW, Dt.intW, Dt.absW, Dt.ii2, Dt.listW, Dt.tupleW, Dt.dictW, Dt.inW, Dt.notInW, Dt.isNW, Dt.isNotNW, Dt.isN, Dt.lenOW, Dt.eqW_ii, Dt.neW_ii, Dt.eqW_bb, Dt.eqW_ss, Dt.neW_ss, Dt.isK_non_bool, Dt.isK_non_int, Dt.isK_non_str, Dt.isK_non_list, Dt.isK_non_tuple, Dt.isK_non_dict, Dt.isK_bl_bool, Dt.isK_bl_int, Dt.isK_bl_str, Dt.isK_bl_list, Dt.isK_bl_tuple, Dt.isK_bl_dict, Dt.isK_int_bool, Dt.isK_int_int, Dt.isK_int_str, Dt.isK_int_list, Dt.isK_int_tuple, Dt.isK_int_dict, Dt.isK_str_bool, Dt.isK_str_int, Dt.isK_str_str, Dt.isK_str_list, Dt.isK_str_tuple, Dt.isK_str_dict, Dt.isK_lst_bool, Dt.isK_lst_int, Dt.isK_lst_str, Dt.isK_lst_list, Dt.isK_lst_tuple, Dt.isK_lst_dict, Dt.isK_tup_bool, Dt.isK_tup_int, Dt.isK_tup_str, Dt.isK_tup_list, Dt.isK_tup_tuple, Dt.isK_tup_dict, Dt.isK_dct_bool, Dt.isK_dct_int, Dt.isK_dct_str, Dt.isK_dct_list, Dt.isK_dct_tuple, Dt.isK_dct_dict, Dt.isK_ins_bool, Dt.isK_ins_int, Dt.isK_ins_str, Dt.isK_ins_list, Dt.isK_ins_tuple, Dt.isK_ins_dict, Dt.gN, Dt.gT, Dt.gsCons, Dt.gsNil, Dt.δ0, Dt.frz, Dt.wipeD, Dt.keyD, Dt.De0, List.map_cons, List.map_nil, List.length_cons, List.length_nil, List.replicate_succ, List.replicate_zero, List.cons_append, List.nil_append, List.getElem?_cons_zero, List.getElem?_cons_succ, List.set_cons_zero, List.set_cons_succ, Nat.reduceSub, Nat.reduceAdd, Nat.zero_add, reduceIte, Bool.not_true, Bool.not_false, Bool.false_eq_true, Bool.not_eq_true, Bool.true_eq_false, true_and, and_true, ne_eq, decide_eq_true_eq, Bool.not_eq_eq_eq_not, decide_eq_false_iff_not, Option.isSome_some, Option.isSome_none, Bool.or_eq_true, Bool.and_eq_true]
            refine ⟨_, at0 _ _, _, rfl, sz (by decide), trivial, fun xs e x hx => ?_, na, nb, sa, sb, ?_⟩
            · cases e
              simp only [List.mem_cons, List.not_mem_nil, or_false] at hx
              rcases hx with rfl | rfl | rfl | rfl
              · exact av _ (by simp)
              · exact av _ (by simp)
              · exact av _ (by simp)
              · exact av _ (by simp)
            · have e2 : isRp na nb (.tup [.str o, .str a, .str b, .str w]) = isRp ([na, nb].getD 0 []) ([na, nb].getD 1 []) (rpD ⟨o, a, b, w⟩) := rfl
              rw [e2]
              cases z : isRp ([na, nb].getD 0 []) ([na, nb].getD 1 []) (rpD ⟨o, a, b, w⟩) with
              | false =>
                rw [if_neg (by rw [z]; simp)] at h
                exact h
              | true =>
                rw [if_pos z] at h
                simp only [Dt.wSeq, Dt.wIfS, Dt.wRet, Dt.wSet, Dt.wOwn, Dt.wAsg, Dt.wPar2, Dt.wPar3, Dt.xV, Dt.xO, Dt.wVar, Dt.wC, Dt.wCB, Dt.wCons, Dt.wNil, Dt.wOp, Dt.wTru, Dt.wB, Dt.wNot, Dt.wAnd, Dt.wOr, Dt.wV, Dt.wAndV, Dt.wOrV, Dt.wNotV, Dt.wIf, Dt.wCall, Dt.wLst, Dt.wTup, Dt.wLc, Dt.wForS, Dt.wItems, Dt.wEn, Dt.wZi, Dt.wRg1, Dt.wRg2, Dt.wSl, Dt.oNone, Dt.oSome, Dt.wJoin, Dt.wSplit, Dt.wDisp, Dt.psCons, Dt.psNil, Dt.wBor, Dt.wBorT, Dt.wBorF, Dt.wDrop, Dt.wNeg, Dt.wInt, Dt.wCh, Dt.wStar, Dt.wStA, Dt.gU, Dt.wRev, Dt.wProp, Dt.wFld, Dt.wRaise0, Dt.wRaise1, Dt.wApp, Dt.wSetI, Dt.wPutI, Dt.ownL, Dt.ownM, Dt.wCallD, Dt.wCallK, Dt.mPre, Dt.mSto, Dt.mNil, Dt.asB, Dt.asI, Dt.asS, Dt.asK, Dt.asL, Dt.truW, Dt.addW, Dt.addF, Dt.subW, Dt.iiW, Dt.ciW, Dt.ltW, Dt.leW, Dt.gtW, Dt.geW, Dt.mulW, Dt.fdivW, Dt.modW, Dt.iltW, Dt.iltW.iiB, Dt.ileW, Dt.ixW, Dt.slW, Dt.slF, Dt.lenW, Dt.intW, Dt.absW, Dt.ii2, Dt.listW, Dt.tupleW, Dt.dictW, Dt.inW, Dt.notInW, Dt.isNW, Dt.isNotNW, Dt.isN, Dt.lenOW, Dt.eqW_ii, Dt.neW_ii, Dt.eqW_bb, Dt.eqW_ss, Dt.neW_ss, Dt.isK_non_bool, Dt.isK_non_int, Dt.isK_non_str, Dt.isK_non_list, Dt.isK_non_tuple, Dt.isK_non_dict, Dt.isK_bl_bool, Dt.isK_bl_int, Dt.isK_bl_str, Dt.isK_bl_list, Dt.isK_bl_tuple, Dt.isK_bl_dict, Dt.isK_int_bool, Dt.isK_int_int, Dt.isK_int_str, Dt.isK_int_list, Dt.isK_int_tuple, Dt.isK_int_dict, Dt.isK_str_bool, Dt.isK_str_int, Dt.isK_str_str, Dt.isK_str_list, Dt.isK_str_tuple, Dt.isK_str_dict, Dt.isK_lst_bool, Dt.isK_lst_int, Dt.isK_lst_str, Dt.isK_lst_list, Dt.isK_lst_tuple, Dt.isK_lst_dict, Dt.isK_tup_bool, Dt.isK_tup_int, Dt.isK_tup_str, Dt.isK_tup_list, Dt.isK_tup_tuple, Dt.isK_tup_dict, Dt.isK_dct_bool, Dt.isK_dct_int, Dt.isK_dct_str, Dt.isK_dct_list, Dt.isK_dct_tuple, Dt.isK_dct_dict, Dt.isK_ins_bool, Dt.isK_ins_int, Dt.isK_ins_str, Dt.isK_ins_list, Dt.isK_ins_tuple, Dt.isK_ins_dict, Dt.gN, Dt.gT, Dt.gsCons, Dt.gsNil, Dt.δ0, Dt.frz, Dt.wipeD, Dt.keyD, Dt.De0, List.map_cons, List.map_nil, List.length_cons, List.length_nil, List.replicate_succ, List.replicate_zero, List.cons_append, List.nil_append, List.getElem?_cons_zero, List.getElem?_cons_succ, List.set_cons_zero, List.set_cons_succ, Nat.reduceSub, Nat.reduceAdd, Nat.zero_add, reduceIte, Bool.not_true, Bool.not_false, Bool.false_eq_true, Bool.not_eq_true, Bool.true_eq_false, true_and, and_true, ne_eq, decide_eq_true_eq, Bool.not_eq_eq_eq_not, decide_eq_false_iff_not, Option.isSome_some, Option.isSome_none, Bool.or_eq_true, Bool.and_eq_true]
                have hr30 := hr.rl
                refine ⟨by rw [sizeLine_eq, List.length_map]; omega, sz (by decide), ?_⟩
                have e1 : rs.map rpD ++ [D.tup [.str o, .str a, .str b, .str w]] = (rs ++ [(⟨o, a, b, w⟩ : Rp)]).map rpD := by rw [List.map_append]; rfl
                rw [e1]
                refine read_loop ls (i + 1) [na, nb] (rs ++ [⟨o, a, b, w⟩]) _ _ _ _ _ _ _ ⟨?_, hr.n, ?_, ?_⟩ hl' h
                · simp only [List.length_cons, List.length_nil]
                  omega
                · rw [List.length_append]
                  simp only [List.length_cons, List.length_nil]
                  omega
                · intro p hp
                  rcases List.mem_append.mp hp with hp | hp
                  · exact hr.rp p hp
                  · simp at hp
                    subst hp
                    obtain ⟨p', e3, e4⟩ := isRp_of z
                    have : p' = ⟨o, a, b, w⟩ := by
                      have := congrArg rpOf e3
                      rw [rpOf_rpD, rpOf_rpD] at this
                      exact (Option.some.inj this).symm
                    rw [this] at e4
                    exact e4
      · rw [if_pos (by omega)]
        by_cases h30 : rs.length = 30
        · rw [if_pos h30] at h
          exact h
        · rw [if_neg h30] at h
          generalize Txt.split l " " = ps at h h4
          rcases ps with _ | ⟨a, _ | ⟨b, _ | ⟨d, _ | ⟨e, _ | ⟨g, r⟩⟩⟩⟩⟩ <;> first | exact h | (simp at h4)
theorem pl_read_record {K : PySem.W.Frag} (c : Ct) (n : Nat) (ds : List D) (P : Nat → D → Prop) (h : cf_read_record K c n ds P) : w_read_record K c (De0 P) n (δ0 ["text", "lines", "rest", "names", "reports", "at", "line", "words", "observer", "one", "answer", "other"] ds) := by
  match ds, h with
  | [d], .inr ⟨h1, h2, h3⟩ =>
    simp only [w_read_record, Dt.wSeq, Dt.wIfS, Dt.wRet, Dt.wSet, Dt.wOwn, Dt.wAsg, Dt.wPar2, Dt.wPar3, Dt.xV, Dt.xO, Dt.wVar, Dt.wC, Dt.wCB, Dt.wCons, Dt.wNil, Dt.wOp, Dt.wTru, Dt.wB, Dt.wNot, Dt.wAnd, Dt.wOr, Dt.wV, Dt.wAndV, Dt.wOrV, Dt.wNotV, Dt.wIf, Dt.wCall, Dt.wLst, Dt.wTup, Dt.wLc, Dt.wForS, Dt.wItems, Dt.wEn, Dt.wZi, Dt.wRg1, Dt.wRg2, Dt.wSl, Dt.oNone, Dt.oSome, Dt.wJoin, Dt.wSplit, Dt.wDisp, Dt.psCons, Dt.psNil, Dt.wBor, Dt.wBorT, Dt.wBorF, Dt.wDrop, Dt.wNeg, Dt.wInt, Dt.wCh, Dt.wStar, Dt.wStA, Dt.gU, Dt.wRev, Dt.wProp, Dt.wFld, Dt.wRaise0, Dt.wRaise1, Dt.wApp, Dt.wSetI, Dt.wPutI, Dt.ownL, Dt.ownM, Dt.wCallD, Dt.wCallK, Dt.mPre, Dt.mSto, Dt.mNil, Dt.asB, Dt.asI, Dt.asS, Dt.asK, Dt.asL, Dt.truW, Dt.addW, Dt.addF, Dt.subW, Dt.iiW, Dt.ciW, Dt.ltW, Dt.leW, Dt.gtW, Dt.geW, Dt.mulW, Dt.fdivW, Dt.modW, Dt.iltW, Dt.iltW.iiB, Dt.ileW, Dt.ixW, Dt.slW, Dt.slF, Dt.lenW, Dt.intW, Dt.absW, Dt.ii2, Dt.listW, Dt.tupleW, Dt.dictW, Dt.inW, Dt.notInW, Dt.isNW, Dt.isNotNW, Dt.isN, Dt.lenOW, Dt.eqW_ii, Dt.neW_ii, Dt.eqW_bb, Dt.eqW_ss, Dt.neW_ss, Dt.isK_non_bool, Dt.isK_non_int, Dt.isK_non_str, Dt.isK_non_list, Dt.isK_non_tuple, Dt.isK_non_dict, Dt.isK_bl_bool, Dt.isK_bl_int, Dt.isK_bl_str, Dt.isK_bl_list, Dt.isK_bl_tuple, Dt.isK_bl_dict, Dt.isK_int_bool, Dt.isK_int_int, Dt.isK_int_str, Dt.isK_int_list, Dt.isK_int_tuple, Dt.isK_int_dict, Dt.isK_str_bool, Dt.isK_str_int, Dt.isK_str_str, Dt.isK_str_list, Dt.isK_str_tuple, Dt.isK_str_dict, Dt.isK_lst_bool, Dt.isK_lst_int, Dt.isK_lst_str, Dt.isK_lst_list, Dt.isK_lst_tuple, Dt.isK_lst_dict, Dt.isK_tup_bool, Dt.isK_tup_int, Dt.isK_tup_str, Dt.isK_tup_list, Dt.isK_tup_tuple, Dt.isK_tup_dict, Dt.isK_dct_bool, Dt.isK_dct_int, Dt.isK_dct_str, Dt.isK_dct_list, Dt.isK_dct_tuple, Dt.isK_dct_dict, Dt.isK_ins_bool, Dt.isK_ins_int, Dt.isK_ins_str, Dt.isK_ins_list, Dt.isK_ins_tuple, Dt.isK_ins_dict, Dt.gN, Dt.gT, Dt.gsCons, Dt.gsNil, Dt.δ0, Dt.frz, Dt.wipeD, Dt.keyD, Dt.De0, List.map_cons, List.map_nil, List.length_cons, List.length_nil, List.replicate_succ, List.replicate_zero, List.cons_append, List.nil_append, List.getElem?_cons_zero, List.getElem?_cons_succ, List.set_cons_zero, List.set_cons_succ, Nat.reduceSub, Nat.reduceAdd, Nat.zero_add, reduceIte, Bool.not_true, Bool.not_false, Bool.false_eq_true, Bool.not_eq_true, Bool.true_eq_false, true_and, and_true, ne_eq, decide_eq_true_eq, Bool.not_eq_eq_eq_not, decide_eq_false_iff_not, Option.isSome_some, Option.isSome_none, Bool.or_eq_true, Bool.and_eq_true]
    refine isi_k h1 (by decide) ?_
    rw [h2]
    exact h3
  | [d], .inl ⟨x, h0, h1, h2, h3⟩ =>
    subst h0
    simp only [w_read_record, Dt.wSeq, Dt.wIfS, Dt.wRet, Dt.wSet, Dt.wOwn, Dt.wAsg, Dt.wPar2, Dt.wPar3, Dt.xV, Dt.xO, Dt.wVar, Dt.wC, Dt.wCB, Dt.wCons, Dt.wNil, Dt.wOp, Dt.wTru, Dt.wB, Dt.wNot, Dt.wAnd, Dt.wOr, Dt.wV, Dt.wAndV, Dt.wOrV, Dt.wNotV, Dt.wIf, Dt.wCall, Dt.wLst, Dt.wTup, Dt.wLc, Dt.wForS, Dt.wItems, Dt.wEn, Dt.wZi, Dt.wRg1, Dt.wRg2, Dt.wSl, Dt.oNone, Dt.oSome, Dt.wJoin, Dt.wSplit, Dt.wDisp, Dt.psCons, Dt.psNil, Dt.wBor, Dt.wBorT, Dt.wBorF, Dt.wDrop, Dt.wNeg, Dt.wInt, Dt.wCh, Dt.wStar, Dt.wStA, Dt.gU, Dt.wRev, Dt.wProp, Dt.wFld, Dt.wRaise0, Dt.wRaise1, Dt.wApp, Dt.wSetI, Dt.wPutI, Dt.ownL, Dt.ownM, Dt.wCallD, Dt.wCallK, Dt.mPre, Dt.mSto, Dt.mNil, Dt.asB, Dt.asI, Dt.asS, Dt.asK, Dt.asL, Dt.truW, Dt.addW, Dt.addF, Dt.subW, Dt.iiW, Dt.ciW, Dt.ltW, Dt.leW, Dt.gtW, Dt.geW, Dt.mulW, Dt.fdivW, Dt.modW, Dt.iltW, Dt.iltW.iiB, Dt.ileW, Dt.ixW, Dt.slW, Dt.slF, Dt.lenW, Dt.intW, Dt.absW, Dt.ii2, Dt.listW, Dt.tupleW, Dt.dictW, Dt.inW, Dt.notInW, Dt.isNW, Dt.isNotNW, Dt.isN, Dt.lenOW, Dt.eqW_ii, Dt.neW_ii, Dt.eqW_bb, Dt.eqW_ss, Dt.neW_ss, Dt.isK_non_bool, Dt.isK_non_int, Dt.isK_non_str, Dt.isK_non_list, Dt.isK_non_tuple, Dt.isK_non_dict, Dt.isK_bl_bool, Dt.isK_bl_int, Dt.isK_bl_str, Dt.isK_bl_list, Dt.isK_bl_tuple, Dt.isK_bl_dict, Dt.isK_int_bool, Dt.isK_int_int, Dt.isK_int_str, Dt.isK_int_list, Dt.isK_int_tuple, Dt.isK_int_dict, Dt.isK_str_bool, Dt.isK_str_int, Dt.isK_str_str, Dt.isK_str_list, Dt.isK_str_tuple, Dt.isK_str_dict, Dt.isK_lst_bool, Dt.isK_lst_int, Dt.isK_lst_str, Dt.isK_lst_list, Dt.isK_lst_tuple, Dt.isK_lst_dict, Dt.isK_tup_bool, Dt.isK_tup_int, Dt.isK_tup_str, Dt.isK_tup_list, Dt.isK_tup_tuple, Dt.isK_tup_dict, Dt.isK_dct_bool, Dt.isK_dct_int, Dt.isK_dct_str, Dt.isK_dct_list, Dt.isK_dct_tuple, Dt.isK_dct_dict, Dt.isK_ins_bool, Dt.isK_ins_int, Dt.isK_ins_str, Dt.isK_ins_list, Dt.isK_ins_tuple, Dt.isK_ins_dict, Dt.gN, Dt.gT, Dt.gsCons, Dt.gsNil, Dt.δ0, Dt.frz, Dt.wipeD, Dt.keyD, Dt.De0, List.map_cons, List.map_nil, List.length_cons, List.length_nil, List.replicate_succ, List.replicate_zero, List.cons_append, List.nil_append, List.getElem?_cons_zero, List.getElem?_cons_succ, List.set_cons_zero, List.set_cons_succ, Nat.reduceSub, Nat.reduceAdd, Nat.zero_add, reduceIte, Bool.not_true, Bool.not_false, Bool.false_eq_true, Bool.not_eq_true, Bool.true_eq_false, true_and, and_true, ne_eq, decide_eq_true_eq, Bool.not_eq_eq_eq_not, decide_eq_false_iff_not, Option.isSome_some, Option.isSome_none, Bool.or_eq_true, Bool.and_eq_true]
    refine isi_k ⟨h1, by omega⟩ (by decide) ?_
    simp only [Dt.wSeq, Dt.wIfS, Dt.wRet, Dt.wSet, Dt.wOwn, Dt.wAsg, Dt.wPar2, Dt.wPar3, Dt.xV, Dt.xO, Dt.wVar, Dt.wC, Dt.wCB, Dt.wCons, Dt.wNil, Dt.wOp, Dt.wTru, Dt.wB, Dt.wNot, Dt.wAnd, Dt.wOr, Dt.wV, Dt.wAndV, Dt.wOrV, Dt.wNotV, Dt.wIf, Dt.wCall, Dt.wLst, Dt.wTup, Dt.wLc, Dt.wForS, Dt.wItems, Dt.wEn, Dt.wZi, Dt.wRg1, Dt.wRg2, Dt.wSl, Dt.oNone, Dt.oSome, Dt.wJoin, Dt.wSplit, Dt.wDisp, Dt.psCons, Dt.psNil, Dt.wBor, Dt.wBorT, Dt.wBorF, Dt.wDrop, Dt.wNeg, Dt.wInt, Dt.wCh, Dt.wStar, Dt.wStA, Dt.gU, Dt.wRev, Dt.wProp, Dt.wFld, Dt.wRaise0, Dt.wRaise1, Dt.wApp, Dt.wSetI, Dt.wPutI, Dt.ownL, Dt.ownM, Dt.wCallD, Dt.wCallK, Dt.mPre, Dt.mSto, Dt.mNil, Dt.asB, Dt.asI, Dt.asS, Dt.asK, Dt.asL, Dt.truW, Dt.addW, Dt.addF, Dt.subW, Dt.iiW, Dt.ciW, Dt.ltW, Dt.leW, Dt.gtW, Dt.geW, Dt.mulW, Dt.fdivW, Dt.modW, Dt.iltW, Dt.iltW.iiB, Dt.ileW, Dt.ixW, Dt.slW, Dt.slF, Dt.lenW, Dt.intW, Dt.absW, Dt.ii2, Dt.listW, Dt.tupleW, Dt.dictW, Dt.inW, Dt.notInW, Dt.isNW, Dt.isNotNW, Dt.isN, Dt.lenOW, Dt.eqW_ii, Dt.neW_ii, Dt.eqW_bb, Dt.eqW_ss, Dt.neW_ss, Dt.isK_non_bool, Dt.isK_non_int, Dt.isK_non_str, Dt.isK_non_list, Dt.isK_non_tuple, Dt.isK_non_dict, Dt.isK_bl_bool, Dt.isK_bl_int, Dt.isK_bl_str, Dt.isK_bl_list, Dt.isK_bl_tuple, Dt.isK_bl_dict, Dt.isK_int_bool, Dt.isK_int_int, Dt.isK_int_str, Dt.isK_int_list, Dt.isK_int_tuple, Dt.isK_int_dict, Dt.isK_str_bool, Dt.isK_str_int, Dt.isK_str_str, Dt.isK_str_list, Dt.isK_str_tuple, Dt.isK_str_dict, Dt.isK_lst_bool, Dt.isK_lst_int, Dt.isK_lst_str, Dt.isK_lst_list, Dt.isK_lst_tuple, Dt.isK_lst_dict, Dt.isK_tup_bool, Dt.isK_tup_int, Dt.isK_tup_str, Dt.isK_tup_list, Dt.isK_tup_tuple, Dt.isK_tup_dict, Dt.isK_dct_bool, Dt.isK_dct_int, Dt.isK_dct_str, Dt.isK_dct_list, Dt.isK_dct_tuple, Dt.isK_dct_dict, Dt.isK_ins_bool, Dt.isK_ins_int, Dt.isK_ins_str, Dt.isK_ins_list, Dt.isK_ins_tuple, Dt.isK_ins_dict, Dt.gN, Dt.gT, Dt.gsCons, Dt.gsNil, Dt.δ0, Dt.frz, Dt.wipeD, Dt.keyD, Dt.De0, List.map_cons, List.map_nil, List.length_cons, List.length_nil, List.replicate_succ, List.replicate_zero, List.cons_append, List.nil_append, List.getElem?_cons_zero, List.getElem?_cons_succ, List.set_cons_zero, List.set_cons_succ, Nat.reduceSub, Nat.reduceAdd, Nat.zero_add, reduceIte, Bool.not_true, Bool.not_false, Bool.false_eq_true, Bool.not_eq_true, Bool.true_eq_false, true_and, and_true, ne_eq, decide_eq_true_eq, Bool.not_eq_eq_eq_not, decide_eq_false_iff_not, Option.isSome_some, Option.isSome_none, Bool.or_eq_true, Bool.and_eq_true, w_read_record_s1]
    refine ⟨rfl, by rw [sizeLine_eq]; omega, ?_⟩
    have hpos := PyProof.Rows.split_pos x "\n"
    have hle := PyProof.Rows.split_le x "\n"
    simp only [List.length_map, List.take_zero, List.drop_zero, List.nil_append, Dt.wSeq, Dt.wIfS, Dt.wRet, Dt.wSet, Dt.wOwn, Dt.wAsg, Dt.wPar2, Dt.wPar3, Dt.xV, Dt.xO, Dt.wVar, Dt.wC, Dt.wCB, Dt.wCons, Dt.wNil, Dt.wOp, Dt.wTru, Dt.wB, Dt.wNot, Dt.wAnd, Dt.wOr, Dt.wV, Dt.wAndV, Dt.wOrV, Dt.wNotV, Dt.wIf, Dt.wCall, Dt.wLst, Dt.wTup, Dt.wLc, Dt.wForS, Dt.wItems, Dt.wEn, Dt.wZi, Dt.wRg1, Dt.wRg2, Dt.wSl, Dt.oNone, Dt.oSome, Dt.wJoin, Dt.wSplit, Dt.wDisp, Dt.psCons, Dt.psNil, Dt.wBor, Dt.wBorT, Dt.wBorF, Dt.wDrop, Dt.wNeg, Dt.wInt, Dt.wCh, Dt.wStar, Dt.wStA, Dt.gU, Dt.wRev, Dt.wProp, Dt.wFld, Dt.wRaise0, Dt.wRaise1, Dt.wApp, Dt.wSetI, Dt.wPutI, Dt.ownL, Dt.ownM, Dt.wCallD, Dt.wCallK, Dt.mPre, Dt.mSto, Dt.mNil, Dt.asB, Dt.asI, Dt.asS, Dt.asK, Dt.asL, Dt.truW, Dt.addW, Dt.addF, Dt.subW, Dt.iiW, Dt.ciW, Dt.ltW, Dt.leW, Dt.gtW, Dt.geW, Dt.mulW, Dt.fdivW, Dt.modW, Dt.iltW, Dt.iltW.iiB, Dt.ileW, Dt.ixW, Dt.slW, Dt.slF, Dt.lenW, Dt.intW, Dt.absW, Dt.ii2, Dt.listW, Dt.tupleW, Dt.dictW, Dt.inW, Dt.notInW, Dt.isNW, Dt.isNotNW, Dt.isN, Dt.lenOW, Dt.eqW_ii, Dt.neW_ii, Dt.eqW_bb, Dt.eqW_ss, Dt.neW_ss, Dt.isK_non_bool, Dt.isK_non_int, Dt.isK_non_str, Dt.isK_non_list, Dt.isK_non_tuple, Dt.isK_non_dict, Dt.isK_bl_bool, Dt.isK_bl_int, Dt.isK_bl_str, Dt.isK_bl_list, Dt.isK_bl_tuple, Dt.isK_bl_dict, Dt.isK_int_bool, Dt.isK_int_int, Dt.isK_int_str, Dt.isK_int_list, Dt.isK_int_tuple, Dt.isK_int_dict, Dt.isK_str_bool, Dt.isK_str_int, Dt.isK_str_str, Dt.isK_str_list, Dt.isK_str_tuple, Dt.isK_str_dict, Dt.isK_lst_bool, Dt.isK_lst_int, Dt.isK_lst_str, Dt.isK_lst_list, Dt.isK_lst_tuple, Dt.isK_lst_dict, Dt.isK_tup_bool, Dt.isK_tup_int, Dt.isK_tup_str, Dt.isK_tup_list, Dt.isK_tup_tuple, Dt.isK_tup_dict, Dt.isK_dct_bool, Dt.isK_dct_int, Dt.isK_dct_str, Dt.isK_dct_list, Dt.isK_dct_tuple, Dt.isK_dct_dict, Dt.isK_ins_bool, Dt.isK_ins_int, Dt.isK_ins_str, Dt.isK_ins_list, Dt.isK_ins_tuple, Dt.isK_ins_dict, Dt.gN, Dt.gT, Dt.gsCons, Dt.gsNil, Dt.δ0, Dt.frz, Dt.wipeD, Dt.keyD, Dt.De0, List.map_cons, List.map_nil, List.length_cons, List.length_nil, List.replicate_succ, List.replicate_zero, List.cons_append, List.nil_append, List.getElem?_cons_zero, List.getElem?_cons_succ, List.set_cons_zero, List.set_cons_succ, Nat.reduceSub, Nat.reduceAdd, Nat.zero_add, reduceIte, Bool.not_true, Bool.not_false, Bool.false_eq_true, Bool.not_eq_true, Bool.true_eq_false, true_and, and_true, ne_eq, decide_eq_true_eq, Bool.not_eq_eq_eq_not, decide_eq_false_iff_not, Option.isSome_some, Option.isSome_none, Bool.or_eq_true, Bool.and_eq_true]
    refine ⟨by omega, ?_⟩
    generalize hps : Txt.split x "\n" = ps at *
    have hne : ps ≠ [] := by intro e; rw [e] at hpos; simp at hpos
    obtain ⟨dl, la, rfl⟩ : ∃ dl la, ps = dl ++ [la] := ⟨ps.dropLast, ps.getLast hne, (List.dropLast_concat_getLast hne).symm⟩
    have el : (dl ++ [la]).length + 1 - 2 = (dl.map D.str).length := by simp
    have e1 : List.take ((dl ++ [la]).length + 1 - 2) (List.map D.str (dl ++ [la])) = dl.map .str := by
      rw [el, List.map_append, List.take_left]
    have e2 : List.drop ((dl ++ [la]).length + 1 - 2) (List.map D.str (dl ++ [la])) = [.str la] := by
      rw [el, List.map_append, List.drop_left]
      rfl
    have e3 : (dl ++ [la]).dropLast = dl := by simp
    have e4 : (dl ++ [la]).getLastD "" = la := by simp
    rw [e1, e2]
    simp only [w_read_record_s2, w_read_record_s3, Dt.wSeq, Dt.wIfS, Dt.wRet, Dt.wSet, Dt.wOwn, Dt.wAsg, Dt.wPar2, Dt.wPar3, Dt.xV, Dt.xO, Dt.wVar, Dt.wC, Dt.wCB, Dt.wCons, Dt.wNil, Dt.wOp, Dt.wTru, Dt.wB, Dt.wNot, Dt.wAnd, Dt.wOr, Dt.wV, Dt.wAndV, Dt.wOrV, Dt.wNotV, Dt.wIf, Dt.wCall, Dt.wLst, Dt.wTup, Dt.wLc, Dt.wForS, Dt.wItems, Dt.wEn, Dt.wZi, Dt.wRg1, Dt.wRg2, Dt.wSl, Dt.oNone, Dt.oSome, Dt.wJoin, Dt.wSplit, Dt.wDisp, Dt.psCons, Dt.psNil, Dt.wBor, Dt.wBorT, Dt.wBorF, Dt.wDrop, Dt.wNeg, Dt.wInt, Dt.wCh, Dt.wStar, Dt.wStA, Dt.gU, Dt.wRev, Dt.wProp, Dt.wFld, Dt.wRaise0, Dt.wRaise1, Dt.wApp, Dt.wSetI, Dt.wPutI, Dt.ownL, Dt.ownM, Dt.wCallD, Dt.wCallK, Dt.mPre, Dt.mSto, Dt.mNil, Dt.asB, Dt.asI, Dt.asS, Dt.asK, Dt.asL, Dt.truW, Dt.addW, Dt.addF, Dt.subW, Dt.iiW, Dt.ciW, Dt.ltW, Dt.leW, Dt.gtW, Dt.geW, Dt.mulW, Dt.fdivW, Dt.modW, Dt.iltW, Dt.iltW.iiB, Dt.ileW, Dt.ixW, Dt.slW, Dt.slF, Dt.lenW, Dt.intW, Dt.absW, Dt.ii2, Dt.listW, Dt.tupleW, Dt.dictW, Dt.inW, Dt.notInW, Dt.isNW, Dt.isNotNW, Dt.isN, Dt.lenOW, Dt.eqW_ii, Dt.neW_ii, Dt.eqW_bb, Dt.eqW_ss, Dt.neW_ss, Dt.isK_non_bool, Dt.isK_non_int, Dt.isK_non_str, Dt.isK_non_list, Dt.isK_non_tuple, Dt.isK_non_dict, Dt.isK_bl_bool, Dt.isK_bl_int, Dt.isK_bl_str, Dt.isK_bl_list, Dt.isK_bl_tuple, Dt.isK_bl_dict, Dt.isK_int_bool, Dt.isK_int_int, Dt.isK_int_str, Dt.isK_int_list, Dt.isK_int_tuple, Dt.isK_int_dict, Dt.isK_str_bool, Dt.isK_str_int, Dt.isK_str_str, Dt.isK_str_list, Dt.isK_str_tuple, Dt.isK_str_dict, Dt.isK_lst_bool, Dt.isK_lst_int, Dt.isK_lst_str, Dt.isK_lst_list, Dt.isK_lst_tuple, Dt.isK_lst_dict, Dt.isK_tup_bool, Dt.isK_tup_int, Dt.isK_tup_str, Dt.isK_tup_list, Dt.isK_tup_tuple, Dt.isK_tup_dict, Dt.isK_dct_bool, Dt.isK_dct_int, Dt.isK_dct_str, Dt.isK_dct_list, Dt.isK_dct_tuple, Dt.isK_dct_dict, Dt.isK_ins_bool, Dt.isK_ins_int, Dt.isK_ins_str, Dt.isK_ins_list, Dt.isK_ins_tuple, Dt.isK_ins_dict, Dt.gN, Dt.gT, Dt.gsCons, Dt.gsNil, Dt.δ0, Dt.frz, Dt.wipeD, Dt.keyD, Dt.De0, List.map_cons, List.map_nil, List.length_cons, List.length_nil, List.replicate_succ, List.replicate_zero, List.cons_append, List.nil_append, List.getElem?_cons_zero, List.getElem?_cons_succ, List.set_cons_zero, List.set_cons_succ, Nat.reduceSub, Nat.reduceAdd, Nat.zero_add, reduceIte, Bool.not_true, Bool.not_false, Bool.false_eq_true, Bool.not_eq_true, Bool.true_eq_false, true_and, and_true, ne_eq, decide_eq_true_eq, Bool.not_eq_eq_eq_not, decide_eq_false_iff_not, Option.isSome_some, Option.isSome_none, Bool.or_eq_true, Bool.and_eq_true]
    refine ⟨by decide, by decide, _, _, rfl, rfl, ?_⟩
    rw [enD_F]
    have hl : ∀ l ∈ dl, PyData.strOk l = true ∧ l.length ≤ 100000 := fun l hl => by
      have hm : l ∈ Txt.split x "\n" := by rw [hps]; exact List.mem_append_left _ hl
      exact ⟨part_ok hm h1, Nat.le_trans (part_len hm) h2⟩
    unfold readT at h3
    simp only [hps, e3, e4] at h3
    refine read_loop dl 0 [] [] _ _ _ _ _ _ _ ⟨rfl, (fun j hj => nomatch hj), by simp, (fun p hp => nomatch hp)⟩ hl ?_
    cases q : readGo 0 [] [] dl with
    | error j =>
      rw [q] at h3
      exact h3
    | ok z =>
      obtain ⟨ns', rs'⟩ := z
      rw [q] at h3
      simp only at h3 ⊢
      intro hr s5 s6 s7 s8 s9 s10 s11
      simp only [w_read_record_s4, List.length_map, Dt.wSeq, Dt.wIfS, Dt.wRet, Dt.wSet, Dt.wOwn, Dt.wAsg, Dt.wPar2, Dt.wPar3, Dt.xV, Dt.xO, Dt.wVar, Dt.wC, Dt.wCB, Dt.wCons, Dt.wNil, Dt.wOp, Dt.wTru, Dt.wB, Dt.wNot, Dt.wAnd, Dt.wOr, Dt.wV, Dt.wAndV, Dt.wOrV, Dt.wNotV, Dt.wIf, Dt.wCall, Dt.wLst, Dt.wTup, Dt.wLc, Dt.wForS, Dt.wItems, Dt.wEn, Dt.wZi, Dt.wRg1, Dt.wRg2, Dt.wSl, Dt.oNone, Dt.oSome, Dt.wJoin, Dt.wSplit, Dt.wDisp, Dt.psCons, Dt.psNil, Dt.wBor, Dt.wBorT, Dt.wBorF, Dt.wDrop, Dt.wNeg, Dt.wInt, Dt.wCh, Dt.wStar, Dt.wStA, Dt.gU, Dt.wRev, Dt.wProp, Dt.wFld, Dt.wRaise0, Dt.wRaise1, Dt.wApp, Dt.wSetI, Dt.wPutI, Dt.ownL, Dt.ownM, Dt.wCallD, Dt.wCallK, Dt.mPre, Dt.mSto, Dt.mNil, Dt.asB, Dt.asI, Dt.asS, Dt.asK, Dt.asL, Dt.truW, Dt.addW, Dt.addF, Dt.subW, Dt.iiW, Dt.ciW, Dt.ltW, Dt.leW, Dt.gtW, Dt.geW, Dt.mulW, Dt.fdivW, Dt.modW, Dt.iltW, Dt.iltW.iiB, Dt.ileW, Dt.ixW, Dt.slW, Dt.slF, Dt.lenW, Dt.intW, Dt.absW, Dt.ii2, Dt.listW, Dt.tupleW, Dt.dictW, Dt.inW, Dt.notInW, Dt.isNW, Dt.isNotNW, Dt.isN, Dt.lenOW, Dt.eqW_ii, Dt.neW_ii, Dt.eqW_bb, Dt.eqW_ss, Dt.neW_ss, Dt.isK_non_bool, Dt.isK_non_int, Dt.isK_non_str, Dt.isK_non_list, Dt.isK_non_tuple, Dt.isK_non_dict, Dt.isK_bl_bool, Dt.isK_bl_int, Dt.isK_bl_str, Dt.isK_bl_list, Dt.isK_bl_tuple, Dt.isK_bl_dict, Dt.isK_int_bool, Dt.isK_int_int, Dt.isK_int_str, Dt.isK_int_list, Dt.isK_int_tuple, Dt.isK_int_dict, Dt.isK_str_bool, Dt.isK_str_int, Dt.isK_str_str, Dt.isK_str_list, Dt.isK_str_tuple, Dt.isK_str_dict, Dt.isK_lst_bool, Dt.isK_lst_int, Dt.isK_lst_str, Dt.isK_lst_list, Dt.isK_lst_tuple, Dt.isK_lst_dict, Dt.isK_tup_bool, Dt.isK_tup_int, Dt.isK_tup_str, Dt.isK_tup_list, Dt.isK_tup_tuple, Dt.isK_tup_dict, Dt.isK_dct_bool, Dt.isK_dct_int, Dt.isK_dct_str, Dt.isK_dct_list, Dt.isK_dct_tuple, Dt.isK_dct_dict, Dt.isK_ins_bool, Dt.isK_ins_int, Dt.isK_ins_str, Dt.isK_ins_list, Dt.isK_ins_tuple, Dt.isK_ins_dict, Dt.gN, Dt.gT, Dt.gsCons, Dt.gsNil, Dt.δ0, Dt.frz, Dt.wipeD, Dt.keyD, Dt.De0, List.map_cons, List.map_nil, List.length_cons, List.length_nil, List.replicate_succ, List.replicate_zero, List.cons_append, List.nil_append, List.getElem?_cons_zero, List.getElem?_cons_succ, List.set_cons_zero, List.set_cons_succ, Nat.reduceSub, Nat.reduceAdd, Nat.zero_add, reduceIte, Bool.not_true, Bool.not_false, Bool.false_eq_true, Bool.not_eq_true, Bool.true_eq_false, true_and, and_true, ne_eq, decide_eq_true_eq, Bool.not_eq_eq_eq_not, decide_eq_false_iff_not, Option.isSome_some, Option.isSome_none, Bool.or_eq_true, Bool.and_eq_true]
      by_cases r0 : la = ""
      · rw [if_neg (fun z => z r0)]
        by_cases l2 : dl.length < 2
        · rw [if_pos (.inr l2)] at h3
          rw [if_pos (by omega)]
          exact h3
        · rw [if_neg (fun z => z.elim (fun z => z r0) l2)] at h3
          rw [if_neg (by omega)]
          rw [Nat.zero_add] at hr
          obtain ⟨a, b, rfl, sa, sb⟩ := hr.str (by omega)
          obtain ⟨_, na⟩ := hr.n 0 (by simp)
          obtain ⟨_, nb⟩ := hr.n 1 (by simp)
          have pa := nameLine_names na
          have pb := nameLine_names nb
          simp only [List.getElem_cons_zero, List.getElem_cons_succ, headLo, headHi] at pa pb
          have mb : MoB a b rs' := { on := pa.1, tn := pb.1, od := pa.2.1, td := pb.2.1, rp := hr.rp, o1 := by have := pa.2.2.1; simp at this; omega, o4 := by have := pa.2.2.2; simp at this; omega, t2 := by have := pb.2.2.1; simp at this; omega, t8 := by have := pb.2.2.2; simp at this; omega, r30 := hr.rl }
          refine ⟨_, at0 _ _, _, rfl, cfRec_ok (os := a) (ts := b) (rs := rs') rfl rfl rfl mb ?_⟩
          have ea := (nameLine_ok na).2
          have eb := (nameLine_ok nb).2
          simp only [List.getElem_cons_zero, List.getElem_cons_succ] at ea eb
          rw [← ea, ← eb]
          exact h3
      · rw [if_pos (.inl r0)] at h3
        rw [if_pos r0]
        exact h3
def w__law_page_b0 (K : PySem.W.Frag) : WS := (wApp 1 (wLst (wCons (wVar 2) (wCons (wVar 3) (wCons (wVar 5) (wCons (wVar 4) wNil))))))
def w__law_page (K : PySem.W.Frag) : WS := (wSeq (wOwn 1 (wLst (wCons (wOp addW (wLst (wCons (wC (.str "observers")) wNil)) (wCB sortSW (wCons (wOp ixW (wVar 0) (wC (.str "crew"))) wNil))) (wCons (wOp addW (wLst (wCons (wC (.str "things")) wNil)) (wCB sortSW (wCons (wOp ixW (wVar 0) (wC (.str "goods"))) wNil))) wNil)))) (wSeq (wForS (wItems (wOp ixW (wVar 0) (wC (.str "rows")))) (gT 4 (gsCons (gN 2) (gsCons (gN 3) (gsCons (gN 4) (gsCons (gN 5) gsNil))))) (w__law_page_b0 K)) (wRet (wJoin (wC (.str "")) (wLc (wItems (wVar 1)) (gN 6) wYes (wOp addW (wJoin (wC (.str " ")) (wVar 6)) (wC (.str "\n"))) [6])))))
-- slots of _law_page: 0 _law_model_here, 1 _law_lines, 2 _law_watcher, 3 _law_near, 4 _law_far, 5 _law_word_here, 6 _law_words_here
def cf__law_page (K : PySem.W.Frag) : Con := fun c n ds P => match ds with
  | [d] => ∃ os ts rs, d = moD os ts rs ∧ MoB os ts rs ∧ P n (.str (pageT (rowsOf (sortS os) (sortS ts) rs)))
  | _ => False
theorem MoB.rok {os ts : List Str} {rs : List Rp} (m : MoB os ts rs) : Rec.ok ⟨sortS os, sortS ts, rs⟩ where
  on := fun s hs => m.on s ((sortS_perm os).mem_iff.mp hs)
  tn := fun s hs => m.tn s ((sortS_perm ts).mem_iff.mp hs)
  od := (sortS_perm os).symm.nodup m.od
  td := (sortS_perm ts).symm.nodup m.td
  os := sortS_sortS os
  ts := sortS_sortS ts
  rp := fun p hp => (fun (k : p.ok os ts) => ⟨(sortS_perm os).mem_iff.mpr k.o, (sortS_perm ts).mem_iff.mpr k.a, (sortS_perm ts).mem_iff.mpr k.b, k.ne, k.w⟩) (m.rp p hp)
  o1 := by rw [(sortS_perm os).length_eq]; exact m.o1
  o4 := by rw [(sortS_perm os).length_eq]; exact m.o4
  t2 := by rw [(sortS_perm ts).length_eq]; exact m.t2
  t8 := by rw [(sortS_perm ts).length_eq]; exact m.t8
theorem pl__law_page {K : PySem.W.Frag} (c : Ct) (n : Nat) (ds : List D) (P : Nat → D → Prop) (h : cf__law_page K c n ds P) : w__law_page K c (De0 P) n (δ0 ["_law_model_here", "_law_lines", "_law_watcher", "_law_near", "_law_far", "_law_word_here", "_law_words_here"] ds) := by
  match ds, h with
  | [d], ⟨os, ts, rs, e, m, hP⟩ =>
    subst e
    have o4 := m.o4
    have t8 := m.t8
    have r30 := m.r30
    simp only [w__law_page, Dt.wSeq, Dt.wIfS, Dt.wRet, Dt.wSet, Dt.wOwn, Dt.wAsg, Dt.wPar2, Dt.wPar3, Dt.xV, Dt.xO, Dt.wVar, Dt.wC, Dt.wCB, Dt.wCons, Dt.wNil, Dt.wOp, Dt.wTru, Dt.wB, Dt.wNot, Dt.wAnd, Dt.wOr, Dt.wV, Dt.wAndV, Dt.wOrV, Dt.wNotV, Dt.wIf, Dt.wCall, Dt.wLst, Dt.wTup, Dt.wLc, Dt.wForS, Dt.wItems, Dt.wEn, Dt.wZi, Dt.wRg1, Dt.wRg2, Dt.wSl, Dt.oNone, Dt.oSome, Dt.wJoin, Dt.wSplit, Dt.wDisp, Dt.psCons, Dt.psNil, Dt.wBor, Dt.wBorT, Dt.wBorF, Dt.wDrop, Dt.wNeg, Dt.wInt, Dt.wCh, Dt.wStar, Dt.wStA, Dt.gU, Dt.wRev, Dt.wProp, Dt.wFld, Dt.wRaise0, Dt.wRaise1, Dt.wApp, Dt.wSetI, Dt.wPutI, Dt.ownL, Dt.ownM, Dt.wCallD, Dt.wCallK, Dt.mPre, Dt.mSto, Dt.mNil, Dt.asB, Dt.asI, Dt.asS, Dt.asK, Dt.asL, Dt.truW, Dt.addW, Dt.addF, Dt.subW, Dt.iiW, Dt.ciW, Dt.ltW, Dt.leW, Dt.gtW, Dt.geW, Dt.mulW, Dt.fdivW, Dt.modW, Dt.iltW, Dt.iltW.iiB, Dt.ileW, Dt.ixW, Dt.slW, Dt.slF, Dt.lenW, Dt.intW, Dt.absW, Dt.ii2, Dt.listW, Dt.tupleW, Dt.dictW, Dt.inW, Dt.notInW, Dt.isNW, Dt.isNotNW, Dt.isN, Dt.lenOW, Dt.eqW_ii, Dt.neW_ii, Dt.eqW_bb, Dt.eqW_ss, Dt.neW_ss, Dt.isK_non_bool, Dt.isK_non_int, Dt.isK_non_str, Dt.isK_non_list, Dt.isK_non_tuple, Dt.isK_non_dict, Dt.isK_bl_bool, Dt.isK_bl_int, Dt.isK_bl_str, Dt.isK_bl_list, Dt.isK_bl_tuple, Dt.isK_bl_dict, Dt.isK_int_bool, Dt.isK_int_int, Dt.isK_int_str, Dt.isK_int_list, Dt.isK_int_tuple, Dt.isK_int_dict, Dt.isK_str_bool, Dt.isK_str_int, Dt.isK_str_str, Dt.isK_str_list, Dt.isK_str_tuple, Dt.isK_str_dict, Dt.isK_lst_bool, Dt.isK_lst_int, Dt.isK_lst_str, Dt.isK_lst_list, Dt.isK_lst_tuple, Dt.isK_lst_dict, Dt.isK_tup_bool, Dt.isK_tup_int, Dt.isK_tup_str, Dt.isK_tup_list, Dt.isK_tup_tuple, Dt.isK_tup_dict, Dt.isK_dct_bool, Dt.isK_dct_int, Dt.isK_dct_str, Dt.isK_dct_list, Dt.isK_dct_tuple, Dt.isK_dct_dict, Dt.isK_ins_bool, Dt.isK_ins_int, Dt.isK_ins_str, Dt.isK_ins_list, Dt.isK_ins_tuple, Dt.isK_ins_dict, Dt.gN, Dt.gT, Dt.gsCons, Dt.gsNil, Dt.δ0, Dt.frz, Dt.wipeD, Dt.keyD, Dt.De0, List.map_cons, List.map_nil, List.length_cons, List.length_nil, List.replicate_succ, List.replicate_zero, List.cons_append, List.nil_append, List.getElem?_cons_zero, List.getElem?_cons_succ, List.set_cons_zero, List.set_cons_succ, Nat.reduceSub, Nat.reduceAdd, Nat.zero_add, reduceIte, Bool.not_true, Bool.not_false, Bool.false_eq_true, Bool.not_eq_true, Bool.true_eq_false, true_and, and_true, ne_eq, decide_eq_true_eq, Bool.not_eq_eq_eq_not, decide_eq_false_iff_not, Option.isSome_some, Option.isSome_none, Bool.or_eq_true, Bool.and_eq_true]
    refine ⟨sz (by decide), _, _, rfl, rfl, _, os, rfl, strL_strs os, by omega, ?_⟩
    simp only [List.length_map, (sortS_perm os).length_eq, Dt.wSeq, Dt.wIfS, Dt.wRet, Dt.wSet, Dt.wOwn, Dt.wAsg, Dt.wPar2, Dt.wPar3, Dt.xV, Dt.xO, Dt.wVar, Dt.wC, Dt.wCB, Dt.wCons, Dt.wNil, Dt.wOp, Dt.wTru, Dt.wB, Dt.wNot, Dt.wAnd, Dt.wOr, Dt.wV, Dt.wAndV, Dt.wOrV, Dt.wNotV, Dt.wIf, Dt.wCall, Dt.wLst, Dt.wTup, Dt.wLc, Dt.wForS, Dt.wItems, Dt.wEn, Dt.wZi, Dt.wRg1, Dt.wRg2, Dt.wSl, Dt.oNone, Dt.oSome, Dt.wJoin, Dt.wSplit, Dt.wDisp, Dt.psCons, Dt.psNil, Dt.wBor, Dt.wBorT, Dt.wBorF, Dt.wDrop, Dt.wNeg, Dt.wInt, Dt.wCh, Dt.wStar, Dt.wStA, Dt.gU, Dt.wRev, Dt.wProp, Dt.wFld, Dt.wRaise0, Dt.wRaise1, Dt.wApp, Dt.wSetI, Dt.wPutI, Dt.ownL, Dt.ownM, Dt.wCallD, Dt.wCallK, Dt.mPre, Dt.mSto, Dt.mNil, Dt.asB, Dt.asI, Dt.asS, Dt.asK, Dt.asL, Dt.truW, Dt.addW, Dt.addF, Dt.subW, Dt.iiW, Dt.ciW, Dt.ltW, Dt.leW, Dt.gtW, Dt.geW, Dt.mulW, Dt.fdivW, Dt.modW, Dt.iltW, Dt.iltW.iiB, Dt.ileW, Dt.ixW, Dt.slW, Dt.slF, Dt.lenW, Dt.intW, Dt.absW, Dt.ii2, Dt.listW, Dt.tupleW, Dt.dictW, Dt.inW, Dt.notInW, Dt.isNW, Dt.isNotNW, Dt.isN, Dt.lenOW, Dt.eqW_ii, Dt.neW_ii, Dt.eqW_bb, Dt.eqW_ss, Dt.neW_ss, Dt.isK_non_bool, Dt.isK_non_int, Dt.isK_non_str, Dt.isK_non_list, Dt.isK_non_tuple, Dt.isK_non_dict, Dt.isK_bl_bool, Dt.isK_bl_int, Dt.isK_bl_str, Dt.isK_bl_list, Dt.isK_bl_tuple, Dt.isK_bl_dict, Dt.isK_int_bool, Dt.isK_int_int, Dt.isK_int_str, Dt.isK_int_list, Dt.isK_int_tuple, Dt.isK_int_dict, Dt.isK_str_bool, Dt.isK_str_int, Dt.isK_str_str, Dt.isK_str_list, Dt.isK_str_tuple, Dt.isK_str_dict, Dt.isK_lst_bool, Dt.isK_lst_int, Dt.isK_lst_str, Dt.isK_lst_list, Dt.isK_lst_tuple, Dt.isK_lst_dict, Dt.isK_tup_bool, Dt.isK_tup_int, Dt.isK_tup_str, Dt.isK_tup_list, Dt.isK_tup_tuple, Dt.isK_tup_dict, Dt.isK_dct_bool, Dt.isK_dct_int, Dt.isK_dct_str, Dt.isK_dct_list, Dt.isK_dct_tuple, Dt.isK_dct_dict, Dt.isK_ins_bool, Dt.isK_ins_int, Dt.isK_ins_str, Dt.isK_ins_list, Dt.isK_ins_tuple, Dt.isK_ins_dict, Dt.gN, Dt.gT, Dt.gsCons, Dt.gsNil, Dt.δ0, Dt.frz, Dt.wipeD, Dt.keyD, Dt.De0, List.map_cons, List.map_nil, List.length_cons, List.length_nil, List.replicate_succ, List.replicate_zero, List.cons_append, List.nil_append, List.getElem?_cons_zero, List.getElem?_cons_succ, List.set_cons_zero, List.set_cons_succ, Nat.reduceSub, Nat.reduceAdd, Nat.zero_add, reduceIte, Bool.not_true, Bool.not_false, Bool.false_eq_true, Bool.not_eq_true, Bool.true_eq_false, true_and, and_true, ne_eq, decide_eq_true_eq, Bool.not_eq_eq_eq_not, decide_eq_false_iff_not, Option.isSome_some, Option.isSome_none, Bool.or_eq_true, Bool.and_eq_true]
    refine ⟨by rw [sizeLine_eq]; omega, sz (by decide), _, _, rfl, rfl, _, ts, rfl, strL_strs ts, by omega, ?_⟩
    simp only [List.length_map, (sortS_perm ts).length_eq, Dt.wSeq, Dt.wIfS, Dt.wRet, Dt.wSet, Dt.wOwn, Dt.wAsg, Dt.wPar2, Dt.wPar3, Dt.xV, Dt.xO, Dt.wVar, Dt.wC, Dt.wCB, Dt.wCons, Dt.wNil, Dt.wOp, Dt.wTru, Dt.wB, Dt.wNot, Dt.wAnd, Dt.wOr, Dt.wV, Dt.wAndV, Dt.wOrV, Dt.wNotV, Dt.wIf, Dt.wCall, Dt.wLst, Dt.wTup, Dt.wLc, Dt.wForS, Dt.wItems, Dt.wEn, Dt.wZi, Dt.wRg1, Dt.wRg2, Dt.wSl, Dt.oNone, Dt.oSome, Dt.wJoin, Dt.wSplit, Dt.wDisp, Dt.psCons, Dt.psNil, Dt.wBor, Dt.wBorT, Dt.wBorF, Dt.wDrop, Dt.wNeg, Dt.wInt, Dt.wCh, Dt.wStar, Dt.wStA, Dt.gU, Dt.wRev, Dt.wProp, Dt.wFld, Dt.wRaise0, Dt.wRaise1, Dt.wApp, Dt.wSetI, Dt.wPutI, Dt.ownL, Dt.ownM, Dt.wCallD, Dt.wCallK, Dt.mPre, Dt.mSto, Dt.mNil, Dt.asB, Dt.asI, Dt.asS, Dt.asK, Dt.asL, Dt.truW, Dt.addW, Dt.addF, Dt.subW, Dt.iiW, Dt.ciW, Dt.ltW, Dt.leW, Dt.gtW, Dt.geW, Dt.mulW, Dt.fdivW, Dt.modW, Dt.iltW, Dt.iltW.iiB, Dt.ileW, Dt.ixW, Dt.slW, Dt.slF, Dt.lenW, Dt.intW, Dt.absW, Dt.ii2, Dt.listW, Dt.tupleW, Dt.dictW, Dt.inW, Dt.notInW, Dt.isNW, Dt.isNotNW, Dt.isN, Dt.lenOW, Dt.eqW_ii, Dt.neW_ii, Dt.eqW_bb, Dt.eqW_ss, Dt.neW_ss, Dt.isK_non_bool, Dt.isK_non_int, Dt.isK_non_str, Dt.isK_non_list, Dt.isK_non_tuple, Dt.isK_non_dict, Dt.isK_bl_bool, Dt.isK_bl_int, Dt.isK_bl_str, Dt.isK_bl_list, Dt.isK_bl_tuple, Dt.isK_bl_dict, Dt.isK_int_bool, Dt.isK_int_int, Dt.isK_int_str, Dt.isK_int_list, Dt.isK_int_tuple, Dt.isK_int_dict, Dt.isK_str_bool, Dt.isK_str_int, Dt.isK_str_str, Dt.isK_str_list, Dt.isK_str_tuple, Dt.isK_str_dict, Dt.isK_lst_bool, Dt.isK_lst_int, Dt.isK_lst_str, Dt.isK_lst_list, Dt.isK_lst_tuple, Dt.isK_lst_dict, Dt.isK_tup_bool, Dt.isK_tup_int, Dt.isK_tup_str, Dt.isK_tup_list, Dt.isK_tup_tuple, Dt.isK_tup_dict, Dt.isK_dct_bool, Dt.isK_dct_int, Dt.isK_dct_str, Dt.isK_dct_list, Dt.isK_dct_tuple, Dt.isK_dct_dict, Dt.isK_ins_bool, Dt.isK_ins_int, Dt.isK_ins_str, Dt.isK_ins_list, Dt.isK_ins_tuple, Dt.isK_ins_dict, Dt.gN, Dt.gT, Dt.gsCons, Dt.gsNil, Dt.δ0, Dt.frz, Dt.wipeD, Dt.keyD, Dt.De0, List.map_cons, List.map_nil, List.length_cons, List.length_nil, List.replicate_succ, List.replicate_zero, List.cons_append, List.nil_append, List.getElem?_cons_zero, List.getElem?_cons_succ, List.set_cons_zero, List.set_cons_succ, Nat.reduceSub, Nat.reduceAdd, Nat.zero_add, reduceIte, Bool.not_true, Bool.not_false, Bool.false_eq_true, Bool.not_eq_true, Bool.true_eq_false, true_and, and_true, ne_eq, decide_eq_true_eq, Bool.not_eq_eq_eq_not, decide_eq_false_iff_not, Option.isSome_some, Option.isSome_none, Bool.or_eq_true, Bool.and_eq_true]
    refine ⟨by rw [sizeLine_eq]; omega, sz (by decide), _, _, rfl, rfl, _, rfl, ?_⟩
    have base : [D.lst (D.str "observers" :: (sortS os).map .str), D.lst (D.str "things" :: (sortS ts).map .str)] = (rowsOf (sortS os) (sortS ts) []).map fun ws => .lst (ws.map .str) := rfl
    rw [base]
    refine for_ind (fun rest n' δ => n' = n ∧ ∃ (done left : List Rp) (s2 s3 s4 s5 : Sl), rs = done ++ left ∧ rest = left.map rpD ∧ δ = [.v (moD os ts rs), .o (.lst ((rowsOf (sortS os) (sortS ts) done).map fun ws => .lst (ws.map .str))), s2, s3, s4, s5, .un]) ?_ ?_ _ _ _ ?_
    · rintro n' δ ⟨rfl, done, left, s2, s3, s4, s5, e1, e2, rfl⟩
      have : left = [] := by simpa using e2.symm
      subst this
      rw [List.append_nil] at e1
      subst e1
      have k := m.rok
      simp only [Dt.wSeq, Dt.wIfS, Dt.wRet, Dt.wSet, Dt.wOwn, Dt.wAsg, Dt.wPar2, Dt.wPar3, Dt.xV, Dt.xO, Dt.wVar, Dt.wC, Dt.wCB, Dt.wCons, Dt.wNil, Dt.wOp, Dt.wTru, Dt.wB, Dt.wNot, Dt.wAnd, Dt.wOr, Dt.wV, Dt.wAndV, Dt.wOrV, Dt.wNotV, Dt.wIf, Dt.wCall, Dt.wLst, Dt.wTup, Dt.wLc, Dt.wForS, Dt.wItems, Dt.wEn, Dt.wZi, Dt.wRg1, Dt.wRg2, Dt.wSl, Dt.oNone, Dt.oSome, Dt.wJoin, Dt.wSplit, Dt.wDisp, Dt.psCons, Dt.psNil, Dt.wBor, Dt.wBorT, Dt.wBorF, Dt.wDrop, Dt.wNeg, Dt.wInt, Dt.wCh, Dt.wStar, Dt.wStA, Dt.gU, Dt.wRev, Dt.wProp, Dt.wFld, Dt.wRaise0, Dt.wRaise1, Dt.wApp, Dt.wSetI, Dt.wPutI, Dt.ownL, Dt.ownM, Dt.wCallD, Dt.wCallK, Dt.mPre, Dt.mSto, Dt.mNil, Dt.asB, Dt.asI, Dt.asS, Dt.asK, Dt.asL, Dt.truW, Dt.addW, Dt.addF, Dt.subW, Dt.iiW, Dt.ciW, Dt.ltW, Dt.leW, Dt.gtW, Dt.geW, Dt.mulW, Dt.fdivW, Dt.modW, Dt.iltW, Dt.iltW.iiB, Dt.ileW, Dt.ixW, Dt.slW, Dt.slF, Dt.lenW, Dt.intW, Dt.absW, Dt.ii2, Dt.listW, Dt.tupleW, Dt.dictW, Dt.inW, Dt.notInW, Dt.isNW, Dt.isNotNW, Dt.isN, Dt.lenOW, Dt.eqW_ii, Dt.neW_ii, Dt.eqW_bb, Dt.eqW_ss, Dt.neW_ss, Dt.isK_non_bool, Dt.isK_non_int, Dt.isK_non_str, Dt.isK_non_list, Dt.isK_non_tuple, Dt.isK_non_dict, Dt.isK_bl_bool, Dt.isK_bl_int, Dt.isK_bl_str, Dt.isK_bl_list, Dt.isK_bl_tuple, Dt.isK_bl_dict, Dt.isK_int_bool, Dt.isK_int_int, Dt.isK_int_str, Dt.isK_int_list, Dt.isK_int_tuple, Dt.isK_int_dict, Dt.isK_str_bool, Dt.isK_str_int, Dt.isK_str_str, Dt.isK_str_list, Dt.isK_str_tuple, Dt.isK_str_dict, Dt.isK_lst_bool, Dt.isK_lst_int, Dt.isK_lst_str, Dt.isK_lst_list, Dt.isK_lst_tuple, Dt.isK_lst_dict, Dt.isK_tup_bool, Dt.isK_tup_int, Dt.isK_tup_str, Dt.isK_tup_list, Dt.isK_tup_tuple, Dt.isK_tup_dict, Dt.isK_dct_bool, Dt.isK_dct_int, Dt.isK_dct_str, Dt.isK_dct_list, Dt.isK_dct_tuple, Dt.isK_dct_dict, Dt.isK_ins_bool, Dt.isK_ins_int, Dt.isK_ins_str, Dt.isK_ins_list, Dt.isK_ins_tuple, Dt.isK_ins_dict, Dt.gN, Dt.gT, Dt.gsCons, Dt.gsNil, Dt.δ0, Dt.frz, Dt.wipeD, Dt.keyD, Dt.De0, List.map_cons, List.map_nil, List.length_cons, List.length_nil, List.replicate_succ, List.replicate_zero, List.cons_append, List.nil_append, List.getElem?_cons_zero, List.getElem?_cons_succ, List.set_cons_zero, List.set_cons_succ, Nat.reduceSub, Nat.reduceAdd, Nat.zero_add, reduceIte, Bool.not_true, Bool.not_false, Bool.false_eq_true, Bool.not_eq_true, Bool.true_eq_false, true_and, and_true, ne_eq, decide_eq_true_eq, Bool.not_eq_eq_eq_not, decide_eq_false_iff_not, Option.isSome_some, Option.isSome_none, Bool.or_eq_true, Bool.and_eq_true]
      refine ⟨_, rfl, by rw [sizeLine_eq]; simp only [rowsOf, List.length_map, List.length_cons]; omega, ?_⟩
      exact page_loop (by simp) (rows_le k.on k.tn k.rp k.o4 k.t8) (page_join (by simp only [rowsOf, List.length_map, List.length_cons]; omega) (rows_le k.on k.tn k.rp k.o4 k.t8) hP)
    · rintro d rest n' δ W ⟨rfl, done, left, s2, s3, s4, s5, e1, e2, rfl⟩ hW
      cases left with
      | nil => cases e2
      | cons p left =>
        simp only [List.map_cons, List.cons.injEq] at e2
        obtain ⟨rfl, rfl⟩ := e2
        simp only [rpD, w__law_page_b0, Dt.wSeq, Dt.wIfS, Dt.wRet, Dt.wSet, Dt.wOwn, Dt.wAsg, Dt.wPar2, Dt.wPar3, Dt.xV, Dt.xO, Dt.wVar, Dt.wC, Dt.wCB, Dt.wCons, Dt.wNil, Dt.wOp, Dt.wTru, Dt.wB, Dt.wNot, Dt.wAnd, Dt.wOr, Dt.wV, Dt.wAndV, Dt.wOrV, Dt.wNotV, Dt.wIf, Dt.wCall, Dt.wLst, Dt.wTup, Dt.wLc, Dt.wForS, Dt.wItems, Dt.wEn, Dt.wZi, Dt.wRg1, Dt.wRg2, Dt.wSl, Dt.oNone, Dt.oSome, Dt.wJoin, Dt.wSplit, Dt.wDisp, Dt.psCons, Dt.psNil, Dt.wBor, Dt.wBorT, Dt.wBorF, Dt.wDrop, Dt.wNeg, Dt.wInt, Dt.wCh, Dt.wStar, Dt.wStA, Dt.gU, Dt.wRev, Dt.wProp, Dt.wFld, Dt.wRaise0, Dt.wRaise1, Dt.wApp, Dt.wSetI, Dt.wPutI, Dt.ownL, Dt.ownM, Dt.wCallD, Dt.wCallK, Dt.mPre, Dt.mSto, Dt.mNil, Dt.asB, Dt.asI, Dt.asS, Dt.asK, Dt.asL, Dt.truW, Dt.addW, Dt.addF, Dt.subW, Dt.iiW, Dt.ciW, Dt.ltW, Dt.leW, Dt.gtW, Dt.geW, Dt.mulW, Dt.fdivW, Dt.modW, Dt.iltW, Dt.iltW.iiB, Dt.ileW, Dt.ixW, Dt.slW, Dt.slF, Dt.lenW, Dt.intW, Dt.absW, Dt.ii2, Dt.listW, Dt.tupleW, Dt.dictW, Dt.inW, Dt.notInW, Dt.isNW, Dt.isNotNW, Dt.isN, Dt.lenOW, Dt.eqW_ii, Dt.neW_ii, Dt.eqW_bb, Dt.eqW_ss, Dt.neW_ss, Dt.isK_non_bool, Dt.isK_non_int, Dt.isK_non_str, Dt.isK_non_list, Dt.isK_non_tuple, Dt.isK_non_dict, Dt.isK_bl_bool, Dt.isK_bl_int, Dt.isK_bl_str, Dt.isK_bl_list, Dt.isK_bl_tuple, Dt.isK_bl_dict, Dt.isK_int_bool, Dt.isK_int_int, Dt.isK_int_str, Dt.isK_int_list, Dt.isK_int_tuple, Dt.isK_int_dict, Dt.isK_str_bool, Dt.isK_str_int, Dt.isK_str_str, Dt.isK_str_list, Dt.isK_str_tuple, Dt.isK_str_dict, Dt.isK_lst_bool, Dt.isK_lst_int, Dt.isK_lst_str, Dt.isK_lst_list, Dt.isK_lst_tuple, Dt.isK_lst_dict, Dt.isK_tup_bool, Dt.isK_tup_int, Dt.isK_tup_str, Dt.isK_tup_list, Dt.isK_tup_tuple, Dt.isK_tup_dict, Dt.isK_dct_bool, Dt.isK_dct_int, Dt.isK_dct_str, Dt.isK_dct_list, Dt.isK_dct_tuple, Dt.isK_dct_dict, Dt.isK_ins_bool, Dt.isK_ins_int, Dt.isK_ins_str, Dt.isK_ins_list, Dt.isK_ins_tuple, Dt.isK_ins_dict, Dt.gN, Dt.gT, Dt.gsCons, Dt.gsNil, Dt.δ0, Dt.frz, Dt.wipeD, Dt.keyD, Dt.De0, List.map_cons, List.map_nil, List.length_cons, List.length_nil, List.replicate_succ, List.replicate_zero, List.cons_append, List.nil_append, List.getElem?_cons_zero, List.getElem?_cons_succ, List.set_cons_zero, List.set_cons_succ, Nat.reduceSub, Nat.reduceAdd, Nat.zero_add, reduceIte, Bool.not_true, Bool.not_false, Bool.false_eq_true, Bool.not_eq_true, Bool.true_eq_false, true_and, and_true, ne_eq, decide_eq_true_eq, Bool.not_eq_eq_eq_not, decide_eq_false_iff_not, Option.isSome_some, Option.isSome_none, Bool.or_eq_true, Bool.and_eq_true]
        have hl := congrArg List.length e1
        rw [List.length_append, List.length_cons] at hl
        refine ⟨by rw [sizeLine_eq]; simp only [rowsOf, List.length_map, List.length_cons]; omega, sz (by decide), ?_⟩
        refine hW _ _ ⟨rfl, done ++ [p], left, .v (.str p.o), .v (.str p.a), .v (.str p.b), .v (.str p.w), by rw [e1, List.append_assoc]; rfl, rfl, ?_⟩
        simp only [rowsOf, List.map_cons, List.map_append, List.cons_append, List.map_nil]
    · exact ⟨rfl, [], rs, .un, .un, .un, .un, rfl, rfl, rfl⟩
/-! ### the text of a record is read back -/
theorem jl_mem {sep : List Nat} {c : Nat} : ∀ {ps : List (List Nat)}, c ∈ jl sep ps → c ∈ sep ∨ ∃ p ∈ ps, c ∈ p
  | [], h => by simp [jl] at h
  | [x], h => .inr ⟨x, .head _, h⟩
  | x :: y :: r, h => by
    simp only [jl, List.mem_append] at h
    rcases h with h | h | h
    · exact .inr ⟨x, .head _, h⟩
    · exact .inl h
    · rcases jl_mem h with h | ⟨p, hp, h⟩
      · exact .inl h
      · exact .inr ⟨p, .tail _ hp, h⟩
def lowW (s : Str) : Prop := ∀ c ∈ chs s, 97 ≤ c
theorem nameB_low {s : Str} (h : nameB s = true) : lowW s := fun c hc => by
  have := List.all_eq_true.mp (Bool.and_eq_true_iff.mp h).2 c hc
  exact (of_decide_eq_true this).1
theorem ans_low {w : Str} (h : w ∈ answersL) : lowW w := by
  have : ∀ w ∈ answersL, ∀ c ∈ chs w, 97 ≤ c := by decide +kernel
  exact this w h
theorem line_split {ws : List Str} (h0 : ws ≠ []) (h : ∀ w ∈ ws, lowW w) : Txt.split (Txt.join " " ws) " " = ws := by
  rw [txt_join']
  exact split_join 32 h0 fun p hp hc => absurd (h p hp 32 hc) (by decide)
theorem line_free {ws : List Str} (h : ∀ w ∈ ws, lowW w) : 10 ∉ chs (Txt.join " " ws) := fun hc => by
  rw [txt_join', chs_join] at hc
  rcases jl_mem hc with hc | ⟨p, hp, hc⟩
  · exact absurd hc (by decide)
  · obtain ⟨w, hw, rfl⟩ := List.mem_map.mp hp
    exact absurd (h w hw 10 hc) (by decide)
theorem page_split {rows : List (List Str)} (h : ∀ ws ∈ rows, ∀ w ∈ ws, lowW w) : Txt.split (pageT rows) "\n" = rows.map (Txt.join " ") ++ [("" : Str)] := by
  unfold pageT
  have e : (rows.map fun ws => Txt.join " " ws ++ ("\n" : Str)) = (rows.map (Txt.join " ")).map (· ++ ("\n" : Str)) := by rw [List.map_map]; rfl
  rw [txt_join', e, join_ends]
  refine split_join 10 (by simp) fun p hp => ?_
  rcases List.mem_append.mp hp with hp | hp
  · obtain ⟨ws, hws, rfl⟩ := List.mem_map.mp hp
    exact line_free (h ws hws)
  · simp at hp
    subst hp
    intro hc
    exact absurd hc (by decide)
theorem go_rows {os ts : List Str} : ∀ (left done : List Rp) (i : Nat), 2 ≤ i → (∀ s ∈ os, nameB s = true) → (∀ s ∈ ts, nameB s = true) → (∀ p ∈ left, p.ok os ts) → done.length + left.length ≤ 30 → readGo i [os, ts] done ((left.map fun p => [p.o, p.a, p.w, p.b]).map (Txt.join " ")) = .ok ([os, ts], done ++ left)
  | [], done, i, _, _, _, _, _ => by simp [readGo]
  | p :: left, done, i, hi, ho, ht, hp, hl => by
    have k := hp p (.head _)
    rw [List.length_cons] at hl
    have hlow : ∀ w ∈ [p.o, p.a, p.w, p.b], lowW w := fun w hw => by
      simp only [List.mem_cons, List.not_mem_nil, or_false] at hw
      rcases hw with rfl | rfl | rfl | rfl
      · exact nameB_low (ho _ k.o)
      · exact nameB_low (ht _ k.a)
      · exact ans_low k.w
      · exact nameB_low (ht _ k.b)
    have e : isRp ([os, ts].getD 0 []) ([os, ts].getD 1 []) (rpD ⟨p.o, p.a, p.b, p.w⟩) = true := isRp_ok k
    rw [List.map_cons, List.map_cons, readGo, if_neg (by omega), if_neg (by omega), line_split (by simp) hlow]
    simp only [e, if_true]
    rw [go_rows left (done ++ [p]) (i + 1) (by omega) ho ht (fun q hq => hp q (.tail _ hq)) (by rw [List.length_append]; simp; omega), List.append_assoc]
    rfl
theorem read_page {r : Rec} (h : r.ok) (hl : r.rs.length ≤ 30) : readT (pageT (rowsOf r.os r.ts r.rs)) = .ok r := by
  have o1 := h.o1
  have o4 := h.o4
  have t2 := h.t2
  have t8 := h.t8
  have lo : ∀ w ∈ ("observers" : Str) :: r.os, lowW w := fun w hw => by
    rcases List.mem_cons.mp hw with rfl | hw
    · show ∀ c ∈ chs "observers", 97 ≤ c
      decide +kernel
    · exact nameB_low (h.on w hw)
  have lt : ∀ w ∈ ("things" : Str) :: r.ts, lowW w := fun w hw => by
    rcases List.mem_cons.mp hw with rfl | hw
    · show ∀ c ∈ chs "things", 97 ≤ c
      decide +kernel
    · exact nameB_low (h.tn w hw)
  have low : ∀ ws ∈ rowsOf r.os r.ts r.rs, ∀ w ∈ ws, lowW w := fun ws hws w hw => by
    simp only [rowsOf, List.mem_cons, List.mem_map] at hws
    rcases hws with rfl | rfl | ⟨p, hp, rfl⟩
    · exact lo w hw
    · exact lt w hw
    · have k := h.rp p hp
      simp only [List.mem_cons, List.not_mem_nil, or_false] at hw
      rcases hw with rfl | rfl | rfl | rfl
      · exact nameB_low (h.on _ k.o)
      · exact nameB_low (h.tn _ k.a)
      · exact ans_low k.w
      · exact nameB_low (h.tn _ k.b)
  have n0 : nameLine 0 (Txt.join " " ("observers" :: r.os)) = some r.os := by
    unfold nameLine
    rw [line_split (by simp) lo]
    simp only
    rw [if_pos ⟨rfl, areNm_of rfl h.on h.od (by simp [headLo]; omega) (by simp [headHi]; omega), h.os.symm⟩]
  have n1 : nameLine 1 (Txt.join " " ("things" :: r.ts)) = some r.ts := by
    unfold nameLine
    rw [line_split (by simp) lt]
    simp only
    rw [if_pos ⟨rfl, areNm_of rfl h.tn h.td (by simp [headLo]; omega) (by simp [headHi]; omega), h.ts.symm⟩]
  unfold readT
  rw [page_split low]
  have e1 : (List.map (Txt.join " ") (rowsOf r.os r.ts r.rs) ++ [("" : Str)]).dropLast = List.map (Txt.join " ") (rowsOf r.os r.ts r.rs) := by simp
  have e2 : (List.map (Txt.join " ") (rowsOf r.os r.ts r.rs) ++ [("" : Str)]).getLastD "" = "" := by simp
  simp only [e1, e2]
  have e3 : readGo 0 [] [] (List.map (Txt.join " ") (rowsOf r.os r.ts r.rs)) = .ok ([r.os, r.ts], r.rs) := by
    simp only [rowsOf, List.map_cons]
    rw [readGo, if_pos (by decide), n0]
    simp only [List.nil_append]
    rw [readGo, if_pos (by decide), n1]
    simp only [List.cons_append, List.nil_append]
    have := go_rows (os := r.os) (ts := r.ts) r.rs [] 2 (by decide) h.on h.tn h.rp (by simpa using hl)
    simpa using this
  rw [e3]
  simp only
  rw [if_neg]
  · rfl
  · simp [rowsOf]
theorem page_len {rows : List (List Str)} (hw : ∀ ws ∈ rows, wsum ws ≤ 1000) : (pageT rows).length ≤ 1001 * rows.length := by
  have : ∀ l : List (List Str), (∀ ws ∈ l, wsum ws ≤ 1000) → ((l.map fun ws => Txt.join " " ws ++ ("\n" : Str)).map (·.length)).sum ≤ 1001 * l.length := by
    intro l
    induction l with
    | nil => intro _; simp
    | cons a l ih =>
      intro h
      have h1 := ih fun ws hws => h ws (.tail _ hws)
      have h2 := h a (.head _)
      have h3 := join_le a
      have e : (Txt.join " " a ++ "\n" : Str).length = (Txt.join " " a).length + 1 := PySem.Str.length_append _ _
      simp only [List.map_cons, List.sum_cons, List.length_cons, e]
      omega
  have h1 := this rows hw
  have h2 := PySem.StrLaws.join_length_le "" (rows.map fun ws => Txt.join " " ws ++ ("\n" : Str))
  have e : ("" : Str).length = 0 := rfl
  unfold pageT
  rw [txt_join']
  rw [e] at h2
  omega
theorem page_ok {rows : List (List Str)} (hw : ∀ ws ∈ rows, ∀ w ∈ ws, PyData.strOk w = true) : PyData.strOk (pageT rows) = true := by
  refine strOk_iff.mpr fun c hc => ?_
  unfold pageT at hc
  rw [txt_join', chs_join] at hc
  rcases jl_mem hc with hc | ⟨p, hp, hc⟩
  · have e0 : chs ("" : Str) = [] := rfl
    rw [e0] at hc
    cases hc
  · obtain ⟨l, hl, rfl⟩ := List.mem_map.mp hp
    obtain ⟨ws, hws, rfl⟩ := List.mem_map.mp hl
    rw [chs_append] at hc
    rcases List.mem_append.mp hc with hc | hc
    · rw [txt_join', chs_join] at hc
      rcases jl_mem hc with hc | ⟨q, hq, hc⟩
      · have : ∀ c ∈ chs " ", c < 0x110000 := by decide +kernel
        exact this c hc
      · obtain ⟨w, hw2, rfl⟩ := List.mem_map.mp hq
        exact strOk_iff.mp (hw ws hws w hw2) c hc
    · have : ∀ c ∈ chs "\n", c < 0x110000 := by decide +kernel
      exact this c hc
theorem Rec.ok.words {r : Rec} (h : r.ok) : ∀ ws ∈ rowsOf r.os r.ts r.rs, ∀ w ∈ ws, PyData.strOk w = true := fun ws hws w hw => by
  simp only [rowsOf, List.mem_cons, List.mem_map] at hws
  rcases hws with rfl | rfl | ⟨p, hp, rfl⟩
  · rcases List.mem_cons.mp hw with rfl | hw
    · decide +kernel
    · exact nameB_ok (h.on w hw)
  · rcases List.mem_cons.mp hw with rfl | hw
    · decide +kernel
    · exact nameB_ok (h.tn w hw)
  · have k := h.rp p hp
    simp only [List.mem_cons, List.not_mem_nil, or_false] at hw
    rcases hw with rfl | rfl | rfl | rfl
    · exact nameB_ok (h.on _ k.o)
    · exact nameB_ok (h.tn _ k.a)
    · exact (ans_av (K := []) k.w).1
    · exact nameB_ok (h.tn _ k.b)

end Pk

namespace Pk
open PySem PySem.Spec PyProof.Rows L2 Dt
def pm_record : List D → List D := fun l => l
def pm_text : List D → List D := fun l => l
def w_law_l0_s5 (K : PySem.W.Frag) : WS := (wIfS (wOr (wB (wOp neW (wCB reprW (wCons (wProp (He.ga K "Record") "own_reports" (wOp ixW (wVar 6) (wC (.int 0)))) wNil)) (wCB reprW (wCons (wCB tupleW (wCons (wOp ixW (wVar 3) (wC (.str "rows"))) wNil)) wNil)))) (wB (wOp neW (wCall (cf_record_text K) (wCons (wOp ixW (wVar 6) (wC (.int 0))) wNil)) (wVar 5)))) (wRet (wC (.bl false))) (fun _ De n δ => De.nx n δ))
def w_law_l0_s4 (K : PySem.W.Frag) : WS := (wSeq (wIfS (wB (wOp neW (wLc (wItems (wVar 6)) (gN 7) (wOr (wNot (wTru (wCB (isiXW K) (wCons (wVar 7) (wCons (wC (.obj (.ref (He.ga K "Record")))) wNil))))) (wB (wOp (ownEW K (He.ga K "Record") (cf_eq K) true neW) (wVar 7) (wVar 4)))) (wC (.int 1)) [7]) (wLst wNil))) (wRet (wC (.bl false))) (fun _ De n δ => De.nx n δ)) (w_law_l0_s5 K))
def w_law_l0_s3 (K : PySem.W.Frag) : WS := (wSeq (wSet 6 (wLst (wCons (wCall (cf_read_record K) (wCons (wVar 5) wNil)) (wCons (wCallK (cf_read_record K) 1 pm_text (wCons (wVar 5) wNil)) wNil)))) (w_law_l0_s4 K))
def w_law_l0_s2 (K : PySem.W.Frag) : WS := (wSeq (wIfS (wB (wOp neW (wCB reprW (wCons (wLst (wCons (wCall (cf_record_text K) (wCons (wVar 4) wNil)) (wCons (wCallK (cf_record_text K) 1 pm_record (wCons (wVar 4) wNil)) wNil))) wNil)) (wCB reprW (wCons (wLst (wCons (wVar 5) (wCons (wVar 5) wNil))) wNil)))) (wRet (wC (.bl false))) (fun _ De n δ => De.nx n δ)) (w_law_l0_s3 K))
def w_law_l0_s1 (K : PySem.W.Frag) : WS := (wSeq (wPar2 4 5 (xV (wCall (cf__law_record K) (wCons (wVar 3) wNil))) (xV (wCall (cf__law_page K) (wCons (wVar 3) wNil)))) (w_law_l0_s2 K))
def w_law_b0 (K : PySem.W.Frag) : WS := (wSeq (wSet 3 (wCall (cf__law_model K) (wCons (wVar 1) (wCons (wC (.int 4)) (wCons (wC (.int 8)) (wCons (wCall cfPick (wCons (wVar 1) (wCons (wLst (wCons (wC (.int 0)) (wCons (wC (.int 3)) (wCons (wC (.int 12)) (wCons (wC (.int 30)) wNil))))) wNil))) wNil)))))) (w_law_l0_s1 K))
def w_law (K : PySem.W.Frag) : WS := (wSeq (wForS (wRg1 (wCons (wOp addW (wC (.int 3)) (wCB (ii2 minI) (wCons (wCB lenW (wCons (wVar 0) wNil)) (wCons (wC (.int 20)) wNil)))) wNil)) (gN 2) (w_law_b0 K)) (wRet (wC (.bl true))))
-- slots of law: 0 _law_script, 1 _law_state, 2 _law_turn, 3 _law_model_here, 4 _law_made, 5 _law_page_here, 6 _law_found, 7 _law_other
structure Sh (st : Addr) (δ : List Sl) : Prop where
  len : δ.length = 8
  st : δ[1]? = some (.v (.obj (.ref st)))
theorem str2_repr {x : Str} (h1 : PyData.strOk x = true) (h2 : x.length ≤ 100000) {P : D → Prop} (h : P (.str (told (.lst [.str x, .str x])))) : reprW [.lst [.str x, .str x]] P := by
  refine repr_k ?_ ?_ h
  · simp [tk, tkL, h1]
  · simp only [tw, twL]
    omega
theorem rps_repr {os ts : List Str} {rs : List Rp} (m : MoB os ts rs) {P : D → Prop} (h : P (.str (told (.tup (rs.map rpD))))) : reprW [.tup (rs.map rpD)] P := by
  have l3 := tw_rps m.toMo
  have := m.r30
  refine repr_k (tk_rps (n := 38) m.toMo) ?_ h
  simp only [tw]
  omega
theorem turn_ok {K : PySem.W.Frag} (kr : KRec K) {c : Ct} {st : Addr} {n : Nat} {De : DEnds} {δ : List Sl} (hz : Dr c.Z st n 510) (hd : Sh st δ) (hn : ∀ n' δ', n ≤ n' → n' ≤ n + 510 → Sh st δ' → De.nx n' δ') : w_law_b0 K c De n δ := by
  obtain ⟨hl, hs⟩ := hd
  match δ, hl, hs with
  | [s0, s1, s2, s3, s4, s5, s6, s7], _, hs =>
    simp only [List.getElem?_cons_succ, List.getElem?_cons_zero, Option.some.injEq] at hs
    subst hs
    simp only [w_law_b0, cf__law_model, Dt.wSeq, Dt.wIfS, Dt.wRet, Dt.wSet, Dt.wOwn, Dt.wAsg, Dt.wPar2, Dt.wPar3, Dt.xV, Dt.xO, Dt.wVar, Dt.wC, Dt.wCB, Dt.wCons, Dt.wNil, Dt.wOp, Dt.wTru, Dt.wB, Dt.wNot, Dt.wAnd, Dt.wOr, Dt.wV, Dt.wAndV, Dt.wOrV, Dt.wNotV, Dt.wIf, Dt.wCall, Dt.wLst, Dt.wTup, Dt.wLc, Dt.wForS, Dt.wItems, Dt.wEn, Dt.wZi, Dt.wRg1, Dt.wRg2, Dt.wSl, Dt.oNone, Dt.oSome, Dt.wJoin, Dt.wSplit, Dt.wDisp, Dt.psCons, Dt.psNil, Dt.wBor, Dt.wBorT, Dt.wBorF, Dt.wDrop, Dt.wNeg, Dt.wInt, Dt.wCh, Dt.wStar, Dt.wStA, Dt.gU, Dt.wRev, Dt.wProp, Dt.wFld, Dt.wRaise0, Dt.wRaise1, Dt.wApp, Dt.wSetI, Dt.wPutI, Dt.ownL, Dt.ownM, Dt.wCallD, Dt.wCallK, Dt.mPre, Dt.mSto, Dt.mNil, Dt.asB, Dt.asI, Dt.asS, Dt.asK, Dt.asL, Dt.truW, Dt.addW, Dt.addF, Dt.subW, Dt.iiW, Dt.ciW, Dt.ltW, Dt.leW, Dt.gtW, Dt.geW, Dt.mulW, Dt.fdivW, Dt.modW, Dt.iltW, Dt.iltW.iiB, Dt.ileW, Dt.ixW, Dt.slW, Dt.slF, Dt.lenW, Dt.intW, Dt.absW, Dt.ii2, Dt.listW, Dt.tupleW, Dt.dictW, Dt.inW, Dt.notInW, Dt.isNW, Dt.isNotNW, Dt.isN, Dt.lenOW, Dt.eqW_ii, Dt.neW_ii, Dt.eqW_bb, Dt.eqW_ss, Dt.neW_ss, Dt.isK_non_bool, Dt.isK_non_int, Dt.isK_non_str, Dt.isK_non_list, Dt.isK_non_tuple, Dt.isK_non_dict, Dt.isK_bl_bool, Dt.isK_bl_int, Dt.isK_bl_str, Dt.isK_bl_list, Dt.isK_bl_tuple, Dt.isK_bl_dict, Dt.isK_int_bool, Dt.isK_int_int, Dt.isK_int_str, Dt.isK_int_list, Dt.isK_int_tuple, Dt.isK_int_dict, Dt.isK_str_bool, Dt.isK_str_int, Dt.isK_str_str, Dt.isK_str_list, Dt.isK_str_tuple, Dt.isK_str_dict, Dt.isK_lst_bool, Dt.isK_lst_int, Dt.isK_lst_str, Dt.isK_lst_list, Dt.isK_lst_tuple, Dt.isK_lst_dict, Dt.isK_tup_bool, Dt.isK_tup_int, Dt.isK_tup_str, Dt.isK_tup_list, Dt.isK_tup_tuple, Dt.isK_tup_dict, Dt.isK_dct_bool, Dt.isK_dct_int, Dt.isK_dct_str, Dt.isK_dct_list, Dt.isK_dct_tuple, Dt.isK_dct_dict, Dt.isK_ins_bool, Dt.isK_ins_int, Dt.isK_ins_str, Dt.isK_ins_list, Dt.isK_ins_tuple, Dt.isK_ins_dict, Dt.gN, Dt.gT, Dt.gsCons, Dt.gsNil, Dt.δ0, Dt.frz, Dt.wipeD, Dt.keyD, Dt.De0, List.map_cons, List.map_nil, List.length_cons, List.length_nil, List.replicate_succ, List.replicate_zero, List.cons_append, List.nil_append, List.getElem?_cons_zero, List.getElem?_cons_succ, List.set_cons_zero, List.set_cons_succ, Nat.reduceSub, Nat.reduceAdd, Nat.zero_add, reduceIte, Bool.not_true, Bool.not_false, Bool.false_eq_true, Bool.not_eq_true, Bool.true_eq_false, true_and, and_true, ne_eq, decide_eq_true_eq, Bool.not_eq_eq_eq_not, decide_eq_false_iff_not, Option.isSome_some, Option.isSome_none, Bool.or_eq_true, Bool.and_eq_true]
    refine ⟨sz (by decide), ?_⟩
    refine pick_k (B := 509) (hz.le (by omega)) rfl (by simp) (by decide) fun x hx => ?_
    have hx : ∃ k : Nat, x = .int k ∧ k ≤ 30 := by
      simp only [List.mem_cons, List.not_mem_nil, or_false] at hx
      rcases hx with rfl | rfl | rfl | rfl
      · exact ⟨0, rfl, by decide⟩
      · exact ⟨3, rfl, by decide⟩
      · exact ⟨12, rfl, by decide⟩
      · exact ⟨30, rfl, by decide⟩
    obtain ⟨k, rfl, hk⟩ := hx
    refine ⟨hz.le (by omega), by decide, by decide, by decide, by decide, by omega, by omega, fun m os ts rs m1 m2 mo o1 o4 t2 t8 r30 => ?_⟩
    have mb : MoB os ts rs := { mo with o1 := o1, o4 := by omega, t2 := t2, t8 := by omega, r30 := by omega }
    simp only [w_law_l0_s1, Dt.wSeq, Dt.wIfS, Dt.wRet, Dt.wSet, Dt.wOwn, Dt.wAsg, Dt.wPar2, Dt.wPar3, Dt.xV, Dt.xO, Dt.wVar, Dt.wC, Dt.wCB, Dt.wCons, Dt.wNil, Dt.wOp, Dt.wTru, Dt.wB, Dt.wNot, Dt.wAnd, Dt.wOr, Dt.wV, Dt.wAndV, Dt.wOrV, Dt.wNotV, Dt.wIf, Dt.wCall, Dt.wLst, Dt.wTup, Dt.wLc, Dt.wForS, Dt.wItems, Dt.wEn, Dt.wZi, Dt.wRg1, Dt.wRg2, Dt.wSl, Dt.oNone, Dt.oSome, Dt.wJoin, Dt.wSplit, Dt.wDisp, Dt.psCons, Dt.psNil, Dt.wBor, Dt.wBorT, Dt.wBorF, Dt.wDrop, Dt.wNeg, Dt.wInt, Dt.wCh, Dt.wStar, Dt.wStA, Dt.gU, Dt.wRev, Dt.wProp, Dt.wFld, Dt.wRaise0, Dt.wRaise1, Dt.wApp, Dt.wSetI, Dt.wPutI, Dt.ownL, Dt.ownM, Dt.wCallD, Dt.wCallK, Dt.mPre, Dt.mSto, Dt.mNil, Dt.asB, Dt.asI, Dt.asS, Dt.asK, Dt.asL, Dt.truW, Dt.addW, Dt.addF, Dt.subW, Dt.iiW, Dt.ciW, Dt.ltW, Dt.leW, Dt.gtW, Dt.geW, Dt.mulW, Dt.fdivW, Dt.modW, Dt.iltW, Dt.iltW.iiB, Dt.ileW, Dt.ixW, Dt.slW, Dt.slF, Dt.lenW, Dt.intW, Dt.absW, Dt.ii2, Dt.listW, Dt.tupleW, Dt.dictW, Dt.inW, Dt.notInW, Dt.isNW, Dt.isNotNW, Dt.isN, Dt.lenOW, Dt.eqW_ii, Dt.neW_ii, Dt.eqW_bb, Dt.eqW_ss, Dt.neW_ss, Dt.isK_non_bool, Dt.isK_non_int, Dt.isK_non_str, Dt.isK_non_list, Dt.isK_non_tuple, Dt.isK_non_dict, Dt.isK_bl_bool, Dt.isK_bl_int, Dt.isK_bl_str, Dt.isK_bl_list, Dt.isK_bl_tuple, Dt.isK_bl_dict, Dt.isK_int_bool, Dt.isK_int_int, Dt.isK_int_str, Dt.isK_int_list, Dt.isK_int_tuple, Dt.isK_int_dict, Dt.isK_str_bool, Dt.isK_str_int, Dt.isK_str_str, Dt.isK_str_list, Dt.isK_str_tuple, Dt.isK_str_dict, Dt.isK_lst_bool, Dt.isK_lst_int, Dt.isK_lst_str, Dt.isK_lst_list, Dt.isK_lst_tuple, Dt.isK_lst_dict, Dt.isK_tup_bool, Dt.isK_tup_int, Dt.isK_tup_str, Dt.isK_tup_list, Dt.isK_tup_tuple, Dt.isK_tup_dict, Dt.isK_dct_bool, Dt.isK_dct_int, Dt.isK_dct_str, Dt.isK_dct_list, Dt.isK_dct_tuple, Dt.isK_dct_dict, Dt.isK_ins_bool, Dt.isK_ins_int, Dt.isK_ins_str, Dt.isK_ins_list, Dt.isK_ins_tuple, Dt.isK_ins_dict, Dt.gN, Dt.gT, Dt.gsCons, Dt.gsNil, Dt.δ0, Dt.frz, Dt.wipeD, Dt.keyD, Dt.De0, List.map_cons, List.map_nil, List.length_cons, List.length_nil, List.replicate_succ, List.replicate_zero, List.cons_append, List.nil_append, List.getElem?_cons_zero, List.getElem?_cons_succ, List.set_cons_zero, List.set_cons_succ, Nat.reduceSub, Nat.reduceAdd, Nat.zero_add, reduceIte, Bool.not_true, Bool.not_false, Bool.false_eq_true, Bool.not_eq_true, Bool.true_eq_false, true_and, and_true, ne_eq, decide_eq_true_eq, Bool.not_eq_eq_eq_not, decide_eq_false_iff_not, Option.isSome_some, Option.isSome_none, Bool.or_eq_true, Bool.and_eq_true]
    refine ⟨os, ts, rs, rfl, mb, os, ts, rs, rfl, mb, ?_⟩
    have ok := mb.rok
    have tx := mb.tx
    have rows := rows_le ok.on ok.tn ok.rp ok.o4 ok.t8
    have pl : (pageT (rowsOf (sortS os) (sortS ts) rs)).length ≤ 100000 := by
      have := page_len rows
      have e : (rowsOf (sortS os) (sortS ts) rs).length = rs.length + 2 := by simp [rowsOf]
      have e' : (rowsOf ({ os := sortS os, ts := sortS ts, rs := rs } : Rec).os ({ os := sortS os, ts := sortS ts, rs := rs } : Rec).ts ({ os := sortS os, ts := sortS ts, rs := rs } : Rec).rs).length = rs.length + 2 := e
      rw [e'] at this
      have h30 := mb.r30
      exact Nat.le_trans this (by omega)
    have pk : PyData.strOk (pageT (rowsOf (sortS os) (sortS ts) rs)) = true := page_ok ok.words
    have rp := read_page ok mb.r30
    have l100 : rs.length ≤ 100 := Nat.le_trans mb.r30 (by decide)
    generalize hr : (⟨sortS os, sortS ts, rs⟩ : Rec) = r at *
    have e1 : pageT (rowsOf (sortS os) (sortS ts) rs) = pageT (rowsOf r.os r.ts r.rs) := by rw [← hr]
    have e2 : r.rs = rs := by rw [← hr]
    rw [e1] at pl pk ⊢
    generalize hp : pageT (rowsOf r.os r.ts r.rs) = page at *
    have tx1 : ∀ (c : Ct) (P : Nat → D → Prop), P m (.str page) → cf_record_text K c m [recD K r] P := fun c P h => .inl ⟨r, rfl, ok, by rw [e2]; exact l100, by rw [hp]; exact h⟩
    have rd1 : ∀ (c : Ct) (P : Nat → D → Prop), P m (recD K r) → cf_read_record K c m [.str page] P := fun c P h => .inl ⟨page, rfl, pk, pl, by rw [rp]; exact h⟩
    simp only [w_law_l0_s2, pm_record, Dt.wSeq, Dt.wIfS, Dt.wRet, Dt.wSet, Dt.wOwn, Dt.wAsg, Dt.wPar2, Dt.wPar3, Dt.xV, Dt.xO, Dt.wVar, Dt.wC, Dt.wCB, Dt.wCons, Dt.wNil, Dt.wOp, Dt.wTru, Dt.wB, Dt.wNot, Dt.wAnd, Dt.wOr, Dt.wV, Dt.wAndV, Dt.wOrV, Dt.wNotV, Dt.wIf, Dt.wCall, Dt.wLst, Dt.wTup, Dt.wLc, Dt.wForS, Dt.wItems, Dt.wEn, Dt.wZi, Dt.wRg1, Dt.wRg2, Dt.wSl, Dt.oNone, Dt.oSome, Dt.wJoin, Dt.wSplit, Dt.wDisp, Dt.psCons, Dt.psNil, Dt.wBor, Dt.wBorT, Dt.wBorF, Dt.wDrop, Dt.wNeg, Dt.wInt, Dt.wCh, Dt.wStar, Dt.wStA, Dt.gU, Dt.wRev, Dt.wProp, Dt.wFld, Dt.wRaise0, Dt.wRaise1, Dt.wApp, Dt.wSetI, Dt.wPutI, Dt.ownL, Dt.ownM, Dt.wCallD, Dt.wCallK, Dt.mPre, Dt.mSto, Dt.mNil, Dt.asB, Dt.asI, Dt.asS, Dt.asK, Dt.asL, Dt.truW, Dt.addW, Dt.addF, Dt.subW, Dt.iiW, Dt.ciW, Dt.ltW, Dt.leW, Dt.gtW, Dt.geW, Dt.mulW, Dt.fdivW, Dt.modW, Dt.iltW, Dt.iltW.iiB, Dt.ileW, Dt.ixW, Dt.slW, Dt.slF, Dt.lenW, Dt.intW, Dt.absW, Dt.ii2, Dt.listW, Dt.tupleW, Dt.dictW, Dt.inW, Dt.notInW, Dt.isNW, Dt.isNotNW, Dt.isN, Dt.lenOW, Dt.eqW_ii, Dt.neW_ii, Dt.eqW_bb, Dt.eqW_ss, Dt.neW_ss, Dt.isK_non_bool, Dt.isK_non_int, Dt.isK_non_str, Dt.isK_non_list, Dt.isK_non_tuple, Dt.isK_non_dict, Dt.isK_bl_bool, Dt.isK_bl_int, Dt.isK_bl_str, Dt.isK_bl_list, Dt.isK_bl_tuple, Dt.isK_bl_dict, Dt.isK_int_bool, Dt.isK_int_int, Dt.isK_int_str, Dt.isK_int_list, Dt.isK_int_tuple, Dt.isK_int_dict, Dt.isK_str_bool, Dt.isK_str_int, Dt.isK_str_str, Dt.isK_str_list, Dt.isK_str_tuple, Dt.isK_str_dict, Dt.isK_lst_bool, Dt.isK_lst_int, Dt.isK_lst_str, Dt.isK_lst_list, Dt.isK_lst_tuple, Dt.isK_lst_dict, Dt.isK_tup_bool, Dt.isK_tup_int, Dt.isK_tup_str, Dt.isK_tup_list, Dt.isK_tup_tuple, Dt.isK_tup_dict, Dt.isK_dct_bool, Dt.isK_dct_int, Dt.isK_dct_str, Dt.isK_dct_list, Dt.isK_dct_tuple, Dt.isK_dct_dict, Dt.isK_ins_bool, Dt.isK_ins_int, Dt.isK_ins_str, Dt.isK_ins_list, Dt.isK_ins_tuple, Dt.isK_ins_dict, Dt.gN, Dt.gT, Dt.gsCons, Dt.gsNil, Dt.δ0, Dt.frz, Dt.wipeD, Dt.keyD, Dt.De0, List.map_cons, List.map_nil, List.length_cons, List.length_nil, List.replicate_succ, List.replicate_zero, List.cons_append, List.nil_append, List.getElem?_cons_zero, List.getElem?_cons_succ, List.set_cons_zero, List.set_cons_succ, Nat.reduceSub, Nat.reduceAdd, Nat.zero_add, reduceIte, Bool.not_true, Bool.not_false, Bool.false_eq_true, Bool.not_eq_true, Bool.true_eq_false, true_and, and_true, ne_eq, decide_eq_true_eq, Bool.not_eq_eq_eq_not, decide_eq_false_iff_not, Option.isSome_some, Option.isSome_none, Bool.or_eq_true, Bool.and_eq_true]
    refine tx1 _ _ ?_
    refine tx1 _ _ ?_
    refine ⟨sz (by decide), str2_repr pk pl ⟨sz (by decide), str2_repr pk pl ?_⟩⟩
    simp only [Dt.wSeq, Dt.wIfS, Dt.wRet, Dt.wSet, Dt.wOwn, Dt.wAsg, Dt.wPar2, Dt.wPar3, Dt.xV, Dt.xO, Dt.wVar, Dt.wC, Dt.wCB, Dt.wCons, Dt.wNil, Dt.wOp, Dt.wTru, Dt.wB, Dt.wNot, Dt.wAnd, Dt.wOr, Dt.wV, Dt.wAndV, Dt.wOrV, Dt.wNotV, Dt.wIf, Dt.wCall, Dt.wLst, Dt.wTup, Dt.wLc, Dt.wForS, Dt.wItems, Dt.wEn, Dt.wZi, Dt.wRg1, Dt.wRg2, Dt.wSl, Dt.oNone, Dt.oSome, Dt.wJoin, Dt.wSplit, Dt.wDisp, Dt.psCons, Dt.psNil, Dt.wBor, Dt.wBorT, Dt.wBorF, Dt.wDrop, Dt.wNeg, Dt.wInt, Dt.wCh, Dt.wStar, Dt.wStA, Dt.gU, Dt.wRev, Dt.wProp, Dt.wFld, Dt.wRaise0, Dt.wRaise1, Dt.wApp, Dt.wSetI, Dt.wPutI, Dt.ownL, Dt.ownM, Dt.wCallD, Dt.wCallK, Dt.mPre, Dt.mSto, Dt.mNil, Dt.asB, Dt.asI, Dt.asS, Dt.asK, Dt.asL, Dt.truW, Dt.addW, Dt.addF, Dt.subW, Dt.iiW, Dt.ciW, Dt.ltW, Dt.leW, Dt.gtW, Dt.geW, Dt.mulW, Dt.fdivW, Dt.modW, Dt.iltW, Dt.iltW.iiB, Dt.ileW, Dt.ixW, Dt.slW, Dt.slF, Dt.lenW, Dt.intW, Dt.absW, Dt.ii2, Dt.listW, Dt.tupleW, Dt.dictW, Dt.inW, Dt.notInW, Dt.isNW, Dt.isNotNW, Dt.isN, Dt.lenOW, Dt.eqW_ii, Dt.neW_ii, Dt.eqW_bb, Dt.eqW_ss, Dt.neW_ss, Dt.isK_non_bool, Dt.isK_non_int, Dt.isK_non_str, Dt.isK_non_list, Dt.isK_non_tuple, Dt.isK_non_dict, Dt.isK_bl_bool, Dt.isK_bl_int, Dt.isK_bl_str, Dt.isK_bl_list, Dt.isK_bl_tuple, Dt.isK_bl_dict, Dt.isK_int_bool, Dt.isK_int_int, Dt.isK_int_str, Dt.isK_int_list, Dt.isK_int_tuple, Dt.isK_int_dict, Dt.isK_str_bool, Dt.isK_str_int, Dt.isK_str_str, Dt.isK_str_list, Dt.isK_str_tuple, Dt.isK_str_dict, Dt.isK_lst_bool, Dt.isK_lst_int, Dt.isK_lst_str, Dt.isK_lst_list, Dt.isK_lst_tuple, Dt.isK_lst_dict, Dt.isK_tup_bool, Dt.isK_tup_int, Dt.isK_tup_str, Dt.isK_tup_list, Dt.isK_tup_tuple, Dt.isK_tup_dict, Dt.isK_dct_bool, Dt.isK_dct_int, Dt.isK_dct_str, Dt.isK_dct_list, Dt.isK_dct_tuple, Dt.isK_dct_dict, Dt.isK_ins_bool, Dt.isK_ins_int, Dt.isK_ins_str, Dt.isK_ins_list, Dt.isK_ins_tuple, Dt.isK_ins_dict, Dt.gN, Dt.gT, Dt.gsCons, Dt.gsNil, Dt.δ0, Dt.frz, Dt.wipeD, Dt.keyD, Dt.De0, List.map_cons, List.map_nil, List.length_cons, List.length_nil, List.replicate_succ, List.replicate_zero, List.cons_append, List.nil_append, List.getElem?_cons_zero, List.getElem?_cons_succ, List.set_cons_zero, List.set_cons_succ, Nat.reduceSub, Nat.reduceAdd, Nat.zero_add, reduceIte, Bool.not_true, Bool.not_false, Bool.false_eq_true, Bool.not_eq_true, Bool.true_eq_false, true_and, and_true, ne_eq, decide_eq_true_eq, Bool.not_eq_eq_eq_not, decide_eq_false_iff_not, Option.isSome_some, Option.isSome_none, Bool.or_eq_true, Bool.and_eq_true]
    rw [if_neg (by simp)]
    simp only [w_law_l0_s3, pm_text, Dt.wSeq, Dt.wIfS, Dt.wRet, Dt.wSet, Dt.wOwn, Dt.wAsg, Dt.wPar2, Dt.wPar3, Dt.xV, Dt.xO, Dt.wVar, Dt.wC, Dt.wCB, Dt.wCons, Dt.wNil, Dt.wOp, Dt.wTru, Dt.wB, Dt.wNot, Dt.wAnd, Dt.wOr, Dt.wV, Dt.wAndV, Dt.wOrV, Dt.wNotV, Dt.wIf, Dt.wCall, Dt.wLst, Dt.wTup, Dt.wLc, Dt.wForS, Dt.wItems, Dt.wEn, Dt.wZi, Dt.wRg1, Dt.wRg2, Dt.wSl, Dt.oNone, Dt.oSome, Dt.wJoin, Dt.wSplit, Dt.wDisp, Dt.psCons, Dt.psNil, Dt.wBor, Dt.wBorT, Dt.wBorF, Dt.wDrop, Dt.wNeg, Dt.wInt, Dt.wCh, Dt.wStar, Dt.wStA, Dt.gU, Dt.wRev, Dt.wProp, Dt.wFld, Dt.wRaise0, Dt.wRaise1, Dt.wApp, Dt.wSetI, Dt.wPutI, Dt.ownL, Dt.ownM, Dt.wCallD, Dt.wCallK, Dt.mPre, Dt.mSto, Dt.mNil, Dt.asB, Dt.asI, Dt.asS, Dt.asK, Dt.asL, Dt.truW, Dt.addW, Dt.addF, Dt.subW, Dt.iiW, Dt.ciW, Dt.ltW, Dt.leW, Dt.gtW, Dt.geW, Dt.mulW, Dt.fdivW, Dt.modW, Dt.iltW, Dt.iltW.iiB, Dt.ileW, Dt.ixW, Dt.slW, Dt.slF, Dt.lenW, Dt.intW, Dt.absW, Dt.ii2, Dt.listW, Dt.tupleW, Dt.dictW, Dt.inW, Dt.notInW, Dt.isNW, Dt.isNotNW, Dt.isN, Dt.lenOW, Dt.eqW_ii, Dt.neW_ii, Dt.eqW_bb, Dt.eqW_ss, Dt.neW_ss, Dt.isK_non_bool, Dt.isK_non_int, Dt.isK_non_str, Dt.isK_non_list, Dt.isK_non_tuple, Dt.isK_non_dict, Dt.isK_bl_bool, Dt.isK_bl_int, Dt.isK_bl_str, Dt.isK_bl_list, Dt.isK_bl_tuple, Dt.isK_bl_dict, Dt.isK_int_bool, Dt.isK_int_int, Dt.isK_int_str, Dt.isK_int_list, Dt.isK_int_tuple, Dt.isK_int_dict, Dt.isK_str_bool, Dt.isK_str_int, Dt.isK_str_str, Dt.isK_str_list, Dt.isK_str_tuple, Dt.isK_str_dict, Dt.isK_lst_bool, Dt.isK_lst_int, Dt.isK_lst_str, Dt.isK_lst_list, Dt.isK_lst_tuple, Dt.isK_lst_dict, Dt.isK_tup_bool, Dt.isK_tup_int, Dt.isK_tup_str, Dt.isK_tup_list, Dt.isK_tup_tuple, Dt.isK_tup_dict, Dt.isK_dct_bool, Dt.isK_dct_int, Dt.isK_dct_str, Dt.isK_dct_list, Dt.isK_dct_tuple, Dt.isK_dct_dict, Dt.isK_ins_bool, Dt.isK_ins_int, Dt.isK_ins_str, Dt.isK_ins_list, Dt.isK_ins_tuple, Dt.isK_ins_dict, Dt.gN, Dt.gT, Dt.gsCons, Dt.gsNil, Dt.δ0, Dt.frz, Dt.wipeD, Dt.keyD, Dt.De0, List.map_cons, List.map_nil, List.length_cons, List.length_nil, List.replicate_succ, List.replicate_zero, List.cons_append, List.nil_append, List.getElem?_cons_zero, List.getElem?_cons_succ, List.set_cons_zero, List.set_cons_succ, Nat.reduceSub, Nat.reduceAdd, Nat.zero_add, reduceIte, Bool.not_true, Bool.not_false, Bool.false_eq_true, Bool.not_eq_true, Bool.true_eq_false, true_and, and_true, ne_eq, decide_eq_true_eq, Bool.not_eq_eq_eq_not, decide_eq_false_iff_not, Option.isSome_some, Option.isSome_none, Bool.or_eq_true, Bool.and_eq_true]
    refine rd1 _ _ (rd1 _ _ ⟨sz (by decide), ?_⟩)
    simp only [w_law_l0_s4, Dt.wSeq, Dt.wIfS, Dt.wRet, Dt.wSet, Dt.wOwn, Dt.wAsg, Dt.wPar2, Dt.wPar3, Dt.xV, Dt.xO, Dt.wVar, Dt.wC, Dt.wCB, Dt.wCons, Dt.wNil, Dt.wOp, Dt.wTru, Dt.wB, Dt.wNot, Dt.wAnd, Dt.wOr, Dt.wV, Dt.wAndV, Dt.wOrV, Dt.wNotV, Dt.wIf, Dt.wCall, Dt.wLst, Dt.wTup, Dt.wLc, Dt.wForS, Dt.wItems, Dt.wEn, Dt.wZi, Dt.wRg1, Dt.wRg2, Dt.wSl, Dt.oNone, Dt.oSome, Dt.wJoin, Dt.wSplit, Dt.wDisp, Dt.psCons, Dt.psNil, Dt.wBor, Dt.wBorT, Dt.wBorF, Dt.wDrop, Dt.wNeg, Dt.wInt, Dt.wCh, Dt.wStar, Dt.wStA, Dt.gU, Dt.wRev, Dt.wProp, Dt.wFld, Dt.wRaise0, Dt.wRaise1, Dt.wApp, Dt.wSetI, Dt.wPutI, Dt.ownL, Dt.ownM, Dt.wCallD, Dt.wCallK, Dt.mPre, Dt.mSto, Dt.mNil, Dt.asB, Dt.asI, Dt.asS, Dt.asK, Dt.asL, Dt.truW, Dt.addW, Dt.addF, Dt.subW, Dt.iiW, Dt.ciW, Dt.ltW, Dt.leW, Dt.gtW, Dt.geW, Dt.mulW, Dt.fdivW, Dt.modW, Dt.iltW, Dt.iltW.iiB, Dt.ileW, Dt.ixW, Dt.slW, Dt.slF, Dt.lenW, Dt.intW, Dt.absW, Dt.ii2, Dt.listW, Dt.tupleW, Dt.dictW, Dt.inW, Dt.notInW, Dt.isNW, Dt.isNotNW, Dt.isN, Dt.lenOW, Dt.eqW_ii, Dt.neW_ii, Dt.eqW_bb, Dt.eqW_ss, Dt.neW_ss, Dt.isK_non_bool, Dt.isK_non_int, Dt.isK_non_str, Dt.isK_non_list, Dt.isK_non_tuple, Dt.isK_non_dict, Dt.isK_bl_bool, Dt.isK_bl_int, Dt.isK_bl_str, Dt.isK_bl_list, Dt.isK_bl_tuple, Dt.isK_bl_dict, Dt.isK_int_bool, Dt.isK_int_int, Dt.isK_int_str, Dt.isK_int_list, Dt.isK_int_tuple, Dt.isK_int_dict, Dt.isK_str_bool, Dt.isK_str_int, Dt.isK_str_str, Dt.isK_str_list, Dt.isK_str_tuple, Dt.isK_str_dict, Dt.isK_lst_bool, Dt.isK_lst_int, Dt.isK_lst_str, Dt.isK_lst_list, Dt.isK_lst_tuple, Dt.isK_lst_dict, Dt.isK_tup_bool, Dt.isK_tup_int, Dt.isK_tup_str, Dt.isK_tup_list, Dt.isK_tup_tuple, Dt.isK_tup_dict, Dt.isK_dct_bool, Dt.isK_dct_int, Dt.isK_dct_str, Dt.isK_dct_list, Dt.isK_dct_tuple, Dt.isK_dct_dict, Dt.isK_ins_bool, Dt.isK_ins_int, Dt.isK_ins_str, Dt.isK_ins_list, Dt.isK_ins_tuple, Dt.isK_ins_dict, Dt.gN, Dt.gT, Dt.gsCons, Dt.gsNil, Dt.δ0, Dt.frz, Dt.wipeD, Dt.keyD, Dt.De0, List.map_cons, List.map_nil, List.length_cons, List.length_nil, List.replicate_succ, List.replicate_zero, List.cons_append, List.nil_append, List.getElem?_cons_zero, List.getElem?_cons_succ, List.set_cons_zero, List.set_cons_succ, Nat.reduceSub, Nat.reduceAdd, Nat.zero_add, reduceIte, Bool.not_true, Bool.not_false, Bool.false_eq_true, Bool.not_eq_true, Bool.true_eq_false, true_and, and_true, ne_eq, decide_eq_true_eq, Bool.not_eq_eq_eq_not, decide_eq_false_iff_not, Option.isSome_some, Option.isSome_none, Bool.or_eq_true, Bool.and_eq_true]
    refine ⟨_, rfl, sz (by simp), ?_⟩
    refine loop_fm (fun _ => none) _ _ (fun x hx Q hQ => ?_) ?_
    · have : x = recD K r := by simpa using hx
      subst this
      simp only [Dt.wSeq, Dt.wIfS, Dt.wRet, Dt.wSet, Dt.wOwn, Dt.wAsg, Dt.wPar2, Dt.wPar3, Dt.xV, Dt.xO, Dt.wVar, Dt.wC, Dt.wCB, Dt.wCons, Dt.wNil, Dt.wOp, Dt.wTru, Dt.wB, Dt.wNot, Dt.wAnd, Dt.wOr, Dt.wV, Dt.wAndV, Dt.wOrV, Dt.wNotV, Dt.wIf, Dt.wCall, Dt.wLst, Dt.wTup, Dt.wLc, Dt.wForS, Dt.wItems, Dt.wEn, Dt.wZi, Dt.wRg1, Dt.wRg2, Dt.wSl, Dt.oNone, Dt.oSome, Dt.wJoin, Dt.wSplit, Dt.wDisp, Dt.psCons, Dt.psNil, Dt.wBor, Dt.wBorT, Dt.wBorF, Dt.wDrop, Dt.wNeg, Dt.wInt, Dt.wCh, Dt.wStar, Dt.wStA, Dt.gU, Dt.wRev, Dt.wProp, Dt.wFld, Dt.wRaise0, Dt.wRaise1, Dt.wApp, Dt.wSetI, Dt.wPutI, Dt.ownL, Dt.ownM, Dt.wCallD, Dt.wCallK, Dt.mPre, Dt.mSto, Dt.mNil, Dt.asB, Dt.asI, Dt.asS, Dt.asK, Dt.asL, Dt.truW, Dt.addW, Dt.addF, Dt.subW, Dt.iiW, Dt.ciW, Dt.ltW, Dt.leW, Dt.gtW, Dt.geW, Dt.mulW, Dt.fdivW, Dt.modW, Dt.iltW, Dt.iltW.iiB, Dt.ileW, Dt.ixW, Dt.slW, Dt.slF, Dt.lenW, Dt.intW, Dt.absW, Dt.ii2, Dt.listW, Dt.tupleW, Dt.dictW, Dt.inW, Dt.notInW, Dt.isNW, Dt.isNotNW, Dt.isN, Dt.lenOW, Dt.eqW_ii, Dt.neW_ii, Dt.eqW_bb, Dt.eqW_ss, Dt.neW_ss, Dt.isK_non_bool, Dt.isK_non_int, Dt.isK_non_str, Dt.isK_non_list, Dt.isK_non_tuple, Dt.isK_non_dict, Dt.isK_bl_bool, Dt.isK_bl_int, Dt.isK_bl_str, Dt.isK_bl_list, Dt.isK_bl_tuple, Dt.isK_bl_dict, Dt.isK_int_bool, Dt.isK_int_int, Dt.isK_int_str, Dt.isK_int_list, Dt.isK_int_tuple, Dt.isK_int_dict, Dt.isK_str_bool, Dt.isK_str_int, Dt.isK_str_str, Dt.isK_str_list, Dt.isK_str_tuple, Dt.isK_str_dict, Dt.isK_lst_bool, Dt.isK_lst_int, Dt.isK_lst_str, Dt.isK_lst_list, Dt.isK_lst_tuple, Dt.isK_lst_dict, Dt.isK_tup_bool, Dt.isK_tup_int, Dt.isK_tup_str, Dt.isK_tup_list, Dt.isK_tup_tuple, Dt.isK_tup_dict, Dt.isK_dct_bool, Dt.isK_dct_int, Dt.isK_dct_str, Dt.isK_dct_list, Dt.isK_dct_tuple, Dt.isK_dct_dict, Dt.isK_ins_bool, Dt.isK_ins_int, Dt.isK_ins_str, Dt.isK_ins_list, Dt.isK_ins_tuple, Dt.isK_ins_dict, Dt.gN, Dt.gT, Dt.gsCons, Dt.gsNil, Dt.δ0, Dt.frz, Dt.wipeD, Dt.keyD, Dt.De0, List.map_cons, List.map_nil, List.length_cons, List.length_nil, List.replicate_succ, List.replicate_zero, List.cons_append, List.nil_append, List.getElem?_cons_zero, List.getElem?_cons_succ, List.set_cons_zero, List.set_cons_succ, Nat.reduceSub, Nat.reduceAdd, Nat.zero_add, reduceIte, Bool.not_true, Bool.not_false, Bool.false_eq_true, Bool.not_eq_true, Bool.true_eq_false, true_and, and_true, ne_eq, decide_eq_true_eq, Bool.not_eq_eq_eq_not, decide_eq_false_iff_not, Option.isSome_some, Option.isSome_none, Bool.or_eq_true, Bool.and_eq_true]
      refine isR_rec kr ?_
      simp only [Dt.wSeq, Dt.wIfS, Dt.wRet, Dt.wSet, Dt.wOwn, Dt.wAsg, Dt.wPar2, Dt.wPar3, Dt.xV, Dt.xO, Dt.wVar, Dt.wC, Dt.wCB, Dt.wCons, Dt.wNil, Dt.wOp, Dt.wTru, Dt.wB, Dt.wNot, Dt.wAnd, Dt.wOr, Dt.wV, Dt.wAndV, Dt.wOrV, Dt.wNotV, Dt.wIf, Dt.wCall, Dt.wLst, Dt.wTup, Dt.wLc, Dt.wForS, Dt.wItems, Dt.wEn, Dt.wZi, Dt.wRg1, Dt.wRg2, Dt.wSl, Dt.oNone, Dt.oSome, Dt.wJoin, Dt.wSplit, Dt.wDisp, Dt.psCons, Dt.psNil, Dt.wBor, Dt.wBorT, Dt.wBorF, Dt.wDrop, Dt.wNeg, Dt.wInt, Dt.wCh, Dt.wStar, Dt.wStA, Dt.gU, Dt.wRev, Dt.wProp, Dt.wFld, Dt.wRaise0, Dt.wRaise1, Dt.wApp, Dt.wSetI, Dt.wPutI, Dt.ownL, Dt.ownM, Dt.wCallD, Dt.wCallK, Dt.mPre, Dt.mSto, Dt.mNil, Dt.asB, Dt.asI, Dt.asS, Dt.asK, Dt.asL, Dt.truW, Dt.addW, Dt.addF, Dt.subW, Dt.iiW, Dt.ciW, Dt.ltW, Dt.leW, Dt.gtW, Dt.geW, Dt.mulW, Dt.fdivW, Dt.modW, Dt.iltW, Dt.iltW.iiB, Dt.ileW, Dt.ixW, Dt.slW, Dt.slF, Dt.lenW, Dt.intW, Dt.absW, Dt.ii2, Dt.listW, Dt.tupleW, Dt.dictW, Dt.inW, Dt.notInW, Dt.isNW, Dt.isNotNW, Dt.isN, Dt.lenOW, Dt.eqW_ii, Dt.neW_ii, Dt.eqW_bb, Dt.eqW_ss, Dt.neW_ss, Dt.isK_non_bool, Dt.isK_non_int, Dt.isK_non_str, Dt.isK_non_list, Dt.isK_non_tuple, Dt.isK_non_dict, Dt.isK_bl_bool, Dt.isK_bl_int, Dt.isK_bl_str, Dt.isK_bl_list, Dt.isK_bl_tuple, Dt.isK_bl_dict, Dt.isK_int_bool, Dt.isK_int_int, Dt.isK_int_str, Dt.isK_int_list, Dt.isK_int_tuple, Dt.isK_int_dict, Dt.isK_str_bool, Dt.isK_str_int, Dt.isK_str_str, Dt.isK_str_list, Dt.isK_str_tuple, Dt.isK_str_dict, Dt.isK_lst_bool, Dt.isK_lst_int, Dt.isK_lst_str, Dt.isK_lst_list, Dt.isK_lst_tuple, Dt.isK_lst_dict, Dt.isK_tup_bool, Dt.isK_tup_int, Dt.isK_tup_str, Dt.isK_tup_list, Dt.isK_tup_tuple, Dt.isK_tup_dict, Dt.isK_dct_bool, Dt.isK_dct_int, Dt.isK_dct_str, Dt.isK_dct_list, Dt.isK_dct_tuple, Dt.isK_dct_dict, Dt.isK_ins_bool, Dt.isK_ins_int, Dt.isK_ins_str, Dt.isK_ins_list, Dt.isK_ins_tuple, Dt.isK_ins_dict, Dt.gN, Dt.gT, Dt.gsCons, Dt.gsNil, Dt.δ0, Dt.frz, Dt.wipeD, Dt.keyD, Dt.De0, List.map_cons, List.map_nil, List.length_cons, List.length_nil, List.replicate_succ, List.replicate_zero, List.cons_append, List.nil_append, List.getElem?_cons_zero, List.getElem?_cons_succ, List.set_cons_zero, List.set_cons_succ, Nat.reduceSub, Nat.reduceAdd, Nat.zero_add, reduceIte, Bool.not_true, Bool.not_false, Bool.false_eq_true, Bool.not_eq_true, Bool.true_eq_false, true_and, and_true, ne_eq, decide_eq_true_eq, Bool.not_eq_eq_eq_not, decide_eq_false_iff_not, Option.isSome_some, Option.isSome_none, Bool.or_eq_true, Bool.and_eq_true]
      refine own_rec kr tx tx ?_
      simp only [Dt.wSeq, Dt.wIfS, Dt.wRet, Dt.wSet, Dt.wOwn, Dt.wAsg, Dt.wPar2, Dt.wPar3, Dt.xV, Dt.xO, Dt.wVar, Dt.wC, Dt.wCB, Dt.wCons, Dt.wNil, Dt.wOp, Dt.wTru, Dt.wB, Dt.wNot, Dt.wAnd, Dt.wOr, Dt.wV, Dt.wAndV, Dt.wOrV, Dt.wNotV, Dt.wIf, Dt.wCall, Dt.wLst, Dt.wTup, Dt.wLc, Dt.wForS, Dt.wItems, Dt.wEn, Dt.wZi, Dt.wRg1, Dt.wRg2, Dt.wSl, Dt.oNone, Dt.oSome, Dt.wJoin, Dt.wSplit, Dt.wDisp, Dt.psCons, Dt.psNil, Dt.wBor, Dt.wBorT, Dt.wBorF, Dt.wDrop, Dt.wNeg, Dt.wInt, Dt.wCh, Dt.wStar, Dt.wStA, Dt.gU, Dt.wRev, Dt.wProp, Dt.wFld, Dt.wRaise0, Dt.wRaise1, Dt.wApp, Dt.wSetI, Dt.wPutI, Dt.ownL, Dt.ownM, Dt.wCallD, Dt.wCallK, Dt.mPre, Dt.mSto, Dt.mNil, Dt.asB, Dt.asI, Dt.asS, Dt.asK, Dt.asL, Dt.truW, Dt.addW, Dt.addF, Dt.subW, Dt.iiW, Dt.ciW, Dt.ltW, Dt.leW, Dt.gtW, Dt.geW, Dt.mulW, Dt.fdivW, Dt.modW, Dt.iltW, Dt.iltW.iiB, Dt.ileW, Dt.ixW, Dt.slW, Dt.slF, Dt.lenW, Dt.intW, Dt.absW, Dt.ii2, Dt.listW, Dt.tupleW, Dt.dictW, Dt.inW, Dt.notInW, Dt.isNW, Dt.isNotNW, Dt.isN, Dt.lenOW, Dt.eqW_ii, Dt.neW_ii, Dt.eqW_bb, Dt.eqW_ss, Dt.neW_ss, Dt.isK_non_bool, Dt.isK_non_int, Dt.isK_non_str, Dt.isK_non_list, Dt.isK_non_tuple, Dt.isK_non_dict, Dt.isK_bl_bool, Dt.isK_bl_int, Dt.isK_bl_str, Dt.isK_bl_list, Dt.isK_bl_tuple, Dt.isK_bl_dict, Dt.isK_int_bool, Dt.isK_int_int, Dt.isK_int_str, Dt.isK_int_list, Dt.isK_int_tuple, Dt.isK_int_dict, Dt.isK_str_bool, Dt.isK_str_int, Dt.isK_str_str, Dt.isK_str_list, Dt.isK_str_tuple, Dt.isK_str_dict, Dt.isK_lst_bool, Dt.isK_lst_int, Dt.isK_lst_str, Dt.isK_lst_list, Dt.isK_lst_tuple, Dt.isK_lst_dict, Dt.isK_tup_bool, Dt.isK_tup_int, Dt.isK_tup_str, Dt.isK_tup_list, Dt.isK_tup_tuple, Dt.isK_tup_dict, Dt.isK_dct_bool, Dt.isK_dct_int, Dt.isK_dct_str, Dt.isK_dct_list, Dt.isK_dct_tuple, Dt.isK_dct_dict, Dt.isK_ins_bool, Dt.isK_ins_int, Dt.isK_ins_str, Dt.isK_ins_list, Dt.isK_ins_tuple, Dt.isK_ins_dict, Dt.gN, Dt.gT, Dt.gsCons, Dt.gsNil, Dt.δ0, Dt.frz, Dt.wipeD, Dt.keyD, Dt.De0, List.map_cons, List.map_nil, List.length_cons, List.length_nil, List.replicate_succ, List.replicate_zero, List.cons_append, List.nil_append, List.getElem?_cons_zero, List.getElem?_cons_succ, List.set_cons_zero, List.set_cons_succ, Nat.reduceSub, Nat.reduceAdd, Nat.zero_add, reduceIte, Bool.not_true, Bool.not_false, Bool.false_eq_true, Bool.not_eq_true, Bool.true_eq_false, true_and, and_true, ne_eq, decide_eq_true_eq, Bool.not_eq_eq_eq_not, decide_eq_false_iff_not, Option.isSome_some, Option.isSome_none, Bool.or_eq_true, Bool.and_eq_true, decide_true, bne_self_eq_false]
      exact hQ
    · refine ⟨sz (by decide), ne_nil (n := 1) (by decide) rfl ?_⟩
      simp only [List.filterMap_cons, List.filterMap_nil, List.isEmpty_nil, w_law_l0_s5, Dt.wSeq, Dt.wIfS, Dt.wRet, Dt.wSet, Dt.wOwn, Dt.wAsg, Dt.wPar2, Dt.wPar3, Dt.xV, Dt.xO, Dt.wVar, Dt.wC, Dt.wCB, Dt.wCons, Dt.wNil, Dt.wOp, Dt.wTru, Dt.wB, Dt.wNot, Dt.wAnd, Dt.wOr, Dt.wV, Dt.wAndV, Dt.wOrV, Dt.wNotV, Dt.wIf, Dt.wCall, Dt.wLst, Dt.wTup, Dt.wLc, Dt.wForS, Dt.wItems, Dt.wEn, Dt.wZi, Dt.wRg1, Dt.wRg2, Dt.wSl, Dt.oNone, Dt.oSome, Dt.wJoin, Dt.wSplit, Dt.wDisp, Dt.psCons, Dt.psNil, Dt.wBor, Dt.wBorT, Dt.wBorF, Dt.wDrop, Dt.wNeg, Dt.wInt, Dt.wCh, Dt.wStar, Dt.wStA, Dt.gU, Dt.wRev, Dt.wProp, Dt.wFld, Dt.wRaise0, Dt.wRaise1, Dt.wApp, Dt.wSetI, Dt.wPutI, Dt.ownL, Dt.ownM, Dt.wCallD, Dt.wCallK, Dt.mPre, Dt.mSto, Dt.mNil, Dt.asB, Dt.asI, Dt.asS, Dt.asK, Dt.asL, Dt.truW, Dt.addW, Dt.addF, Dt.subW, Dt.iiW, Dt.ciW, Dt.ltW, Dt.leW, Dt.gtW, Dt.geW, Dt.mulW, Dt.fdivW, Dt.modW, Dt.iltW, Dt.iltW.iiB, Dt.ileW, Dt.ixW, Dt.slW, Dt.slF, Dt.lenW, Dt.intW, Dt.absW, Dt.ii2, Dt.listW, Dt.tupleW, Dt.dictW, Dt.inW, Dt.notInW, Dt.isNW, Dt.isNotNW, Dt.isN, Dt.lenOW, Dt.eqW_ii, Dt.neW_ii, Dt.eqW_bb, Dt.eqW_ss, Dt.neW_ss, Dt.isK_non_bool, Dt.isK_non_int, Dt.isK_non_str, Dt.isK_non_list, Dt.isK_non_tuple, Dt.isK_non_dict, Dt.isK_bl_bool, Dt.isK_bl_int, Dt.isK_bl_str, Dt.isK_bl_list, Dt.isK_bl_tuple, Dt.isK_bl_dict, Dt.isK_int_bool, Dt.isK_int_int, Dt.isK_int_str, Dt.isK_int_list, Dt.isK_int_tuple, Dt.isK_int_dict, Dt.isK_str_bool, Dt.isK_str_int, Dt.isK_str_str, Dt.isK_str_list, Dt.isK_str_tuple, Dt.isK_str_dict, Dt.isK_lst_bool, Dt.isK_lst_int, Dt.isK_lst_str, Dt.isK_lst_list, Dt.isK_lst_tuple, Dt.isK_lst_dict, Dt.isK_tup_bool, Dt.isK_tup_int, Dt.isK_tup_str, Dt.isK_tup_list, Dt.isK_tup_tuple, Dt.isK_tup_dict, Dt.isK_dct_bool, Dt.isK_dct_int, Dt.isK_dct_str, Dt.isK_dct_list, Dt.isK_dct_tuple, Dt.isK_dct_dict, Dt.isK_ins_bool, Dt.isK_ins_int, Dt.isK_ins_str, Dt.isK_ins_list, Dt.isK_ins_tuple, Dt.isK_ins_dict, Dt.gN, Dt.gT, Dt.gsCons, Dt.gsNil, Dt.δ0, Dt.frz, Dt.wipeD, Dt.keyD, Dt.De0, List.map_cons, List.map_nil, List.length_cons, List.length_nil, List.replicate_succ, List.replicate_zero, List.cons_append, List.nil_append, List.getElem?_cons_zero, List.getElem?_cons_succ, List.set_cons_zero, List.set_cons_succ, Nat.reduceSub, Nat.reduceAdd, Nat.zero_add, reduceIte, Bool.not_true, Bool.not_false, Bool.false_eq_true, Bool.not_eq_true, Bool.true_eq_false, true_and, and_true, ne_eq, decide_eq_true_eq, Bool.not_eq_eq_eq_not, decide_eq_false_iff_not, Option.isSome_some, Option.isSome_none, Bool.or_eq_true, Bool.and_eq_true]
      refine ⟨_, at0 _ _, ?_⟩
      simp only [Dt.wSeq, Dt.wIfS, Dt.wRet, Dt.wSet, Dt.wOwn, Dt.wAsg, Dt.wPar2, Dt.wPar3, Dt.xV, Dt.xO, Dt.wVar, Dt.wC, Dt.wCB, Dt.wCons, Dt.wNil, Dt.wOp, Dt.wTru, Dt.wB, Dt.wNot, Dt.wAnd, Dt.wOr, Dt.wV, Dt.wAndV, Dt.wOrV, Dt.wNotV, Dt.wIf, Dt.wCall, Dt.wLst, Dt.wTup, Dt.wLc, Dt.wForS, Dt.wItems, Dt.wEn, Dt.wZi, Dt.wRg1, Dt.wRg2, Dt.wSl, Dt.oNone, Dt.oSome, Dt.wJoin, Dt.wSplit, Dt.wDisp, Dt.psCons, Dt.psNil, Dt.wBor, Dt.wBorT, Dt.wBorF, Dt.wDrop, Dt.wNeg, Dt.wInt, Dt.wCh, Dt.wStar, Dt.wStA, Dt.gU, Dt.wRev, Dt.wProp, Dt.wFld, Dt.wRaise0, Dt.wRaise1, Dt.wApp, Dt.wSetI, Dt.wPutI, Dt.ownL, Dt.ownM, Dt.wCallD, Dt.wCallK, Dt.mPre, Dt.mSto, Dt.mNil, Dt.asB, Dt.asI, Dt.asS, Dt.asK, Dt.asL, Dt.truW, Dt.addW, Dt.addF, Dt.subW, Dt.iiW, Dt.ciW, Dt.ltW, Dt.leW, Dt.gtW, Dt.geW, Dt.mulW, Dt.fdivW, Dt.modW, Dt.iltW, Dt.iltW.iiB, Dt.ileW, Dt.ixW, Dt.slW, Dt.slF, Dt.lenW, Dt.intW, Dt.absW, Dt.ii2, Dt.listW, Dt.tupleW, Dt.dictW, Dt.inW, Dt.notInW, Dt.isNW, Dt.isNotNW, Dt.isN, Dt.lenOW, Dt.eqW_ii, Dt.neW_ii, Dt.eqW_bb, Dt.eqW_ss, Dt.neW_ss, Dt.isK_non_bool, Dt.isK_non_int, Dt.isK_non_str, Dt.isK_non_list, Dt.isK_non_tuple, Dt.isK_non_dict, Dt.isK_bl_bool, Dt.isK_bl_int, Dt.isK_bl_str, Dt.isK_bl_list, Dt.isK_bl_tuple, Dt.isK_bl_dict, Dt.isK_int_bool, Dt.isK_int_int, Dt.isK_int_str, Dt.isK_int_list, Dt.isK_int_tuple, Dt.isK_int_dict, Dt.isK_str_bool, Dt.isK_str_int, Dt.isK_str_str, Dt.isK_str_list, Dt.isK_str_tuple, Dt.isK_str_dict, Dt.isK_lst_bool, Dt.isK_lst_int, Dt.isK_lst_str, Dt.isK_lst_list, Dt.isK_lst_tuple, Dt.isK_lst_dict, Dt.isK_tup_bool, Dt.isK_tup_int, Dt.isK_tup_str, Dt.isK_tup_list, Dt.isK_tup_tuple, Dt.isK_tup_dict, Dt.isK_dct_bool, Dt.isK_dct_int, Dt.isK_dct_str, Dt.isK_dct_list, Dt.isK_dct_tuple, Dt.isK_dct_dict, Dt.isK_ins_bool, Dt.isK_ins_int, Dt.isK_ins_str, Dt.isK_ins_list, Dt.isK_ins_tuple, Dt.isK_ins_dict, Dt.gN, Dt.gT, Dt.gsCons, Dt.gsNil, Dt.δ0, Dt.frz, Dt.wipeD, Dt.keyD, Dt.De0, List.map_cons, List.map_nil, List.length_cons, List.length_nil, List.replicate_succ, List.replicate_zero, List.cons_append, List.nil_append, List.getElem?_cons_zero, List.getElem?_cons_succ, List.set_cons_zero, List.set_cons_succ, Nat.reduceSub, Nat.reduceAdd, Nat.zero_add, reduceIte, Bool.not_true, Bool.not_false, Bool.false_eq_true, Bool.not_eq_true, Bool.true_eq_false, true_and, and_true, ne_eq, decide_eq_true_eq, Bool.not_eq_eq_eq_not, decide_eq_false_iff_not, Option.isSome_some, Option.isSome_none, Bool.or_eq_true, Bool.and_eq_true]
      refine ⟨_, rfl, ?_⟩
      rw [e2]
      refine rps_repr mb ⟨_, _, rfl, rfl, ?_⟩
      simp only [Dt.wSeq, Dt.wIfS, Dt.wRet, Dt.wSet, Dt.wOwn, Dt.wAsg, Dt.wPar2, Dt.wPar3, Dt.xV, Dt.xO, Dt.wVar, Dt.wC, Dt.wCB, Dt.wCons, Dt.wNil, Dt.wOp, Dt.wTru, Dt.wB, Dt.wNot, Dt.wAnd, Dt.wOr, Dt.wV, Dt.wAndV, Dt.wOrV, Dt.wNotV, Dt.wIf, Dt.wCall, Dt.wLst, Dt.wTup, Dt.wLc, Dt.wForS, Dt.wItems, Dt.wEn, Dt.wZi, Dt.wRg1, Dt.wRg2, Dt.wSl, Dt.oNone, Dt.oSome, Dt.wJoin, Dt.wSplit, Dt.wDisp, Dt.psCons, Dt.psNil, Dt.wBor, Dt.wBorT, Dt.wBorF, Dt.wDrop, Dt.wNeg, Dt.wInt, Dt.wCh, Dt.wStar, Dt.wStA, Dt.gU, Dt.wRev, Dt.wProp, Dt.wFld, Dt.wRaise0, Dt.wRaise1, Dt.wApp, Dt.wSetI, Dt.wPutI, Dt.ownL, Dt.ownM, Dt.wCallD, Dt.wCallK, Dt.mPre, Dt.mSto, Dt.mNil, Dt.asB, Dt.asI, Dt.asS, Dt.asK, Dt.asL, Dt.truW, Dt.addW, Dt.addF, Dt.subW, Dt.iiW, Dt.ciW, Dt.ltW, Dt.leW, Dt.gtW, Dt.geW, Dt.mulW, Dt.fdivW, Dt.modW, Dt.iltW, Dt.iltW.iiB, Dt.ileW, Dt.ixW, Dt.slW, Dt.slF, Dt.lenW, Dt.intW, Dt.absW, Dt.ii2, Dt.listW, Dt.tupleW, Dt.dictW, Dt.inW, Dt.notInW, Dt.isNW, Dt.isNotNW, Dt.isN, Dt.lenOW, Dt.eqW_ii, Dt.neW_ii, Dt.eqW_bb, Dt.eqW_ss, Dt.neW_ss, Dt.isK_non_bool, Dt.isK_non_int, Dt.isK_non_str, Dt.isK_non_list, Dt.isK_non_tuple, Dt.isK_non_dict, Dt.isK_bl_bool, Dt.isK_bl_int, Dt.isK_bl_str, Dt.isK_bl_list, Dt.isK_bl_tuple, Dt.isK_bl_dict, Dt.isK_int_bool, Dt.isK_int_int, Dt.isK_int_str, Dt.isK_int_list, Dt.isK_int_tuple, Dt.isK_int_dict, Dt.isK_str_bool, Dt.isK_str_int, Dt.isK_str_str, Dt.isK_str_list, Dt.isK_str_tuple, Dt.isK_str_dict, Dt.isK_lst_bool, Dt.isK_lst_int, Dt.isK_lst_str, Dt.isK_lst_list, Dt.isK_lst_tuple, Dt.isK_lst_dict, Dt.isK_tup_bool, Dt.isK_tup_int, Dt.isK_tup_str, Dt.isK_tup_list, Dt.isK_tup_tuple, Dt.isK_tup_dict, Dt.isK_dct_bool, Dt.isK_dct_int, Dt.isK_dct_str, Dt.isK_dct_list, Dt.isK_dct_tuple, Dt.isK_dct_dict, Dt.isK_ins_bool, Dt.isK_ins_int, Dt.isK_ins_str, Dt.isK_ins_list, Dt.isK_ins_tuple, Dt.isK_ins_dict, Dt.gN, Dt.gT, Dt.gsCons, Dt.gsNil, Dt.δ0, Dt.frz, Dt.wipeD, Dt.keyD, Dt.De0, List.map_cons, List.map_nil, List.length_cons, List.length_nil, List.replicate_succ, List.replicate_zero, List.cons_append, List.nil_append, List.getElem?_cons_zero, List.getElem?_cons_succ, List.set_cons_zero, List.set_cons_succ, Nat.reduceSub, Nat.reduceAdd, Nat.zero_add, reduceIte, Bool.not_true, Bool.not_false, Bool.false_eq_true, Bool.not_eq_true, Bool.true_eq_false, true_and, and_true, ne_eq, decide_eq_true_eq, Bool.not_eq_eq_eq_not, decide_eq_false_iff_not, Option.isSome_some, Option.isSome_none, Bool.or_eq_true, Bool.and_eq_true]
      refine rps_repr mb ?_
      simp only [Dt.wSeq, Dt.wIfS, Dt.wRet, Dt.wSet, Dt.wOwn, Dt.wAsg, Dt.wPar2, Dt.wPar3, Dt.xV, Dt.xO, Dt.wVar, Dt.wC, Dt.wCB, Dt.wCons, Dt.wNil, Dt.wOp, Dt.wTru, Dt.wB, Dt.wNot, Dt.wAnd, Dt.wOr, Dt.wV, Dt.wAndV, Dt.wOrV, Dt.wNotV, Dt.wIf, Dt.wCall, Dt.wLst, Dt.wTup, Dt.wLc, Dt.wForS, Dt.wItems, Dt.wEn, Dt.wZi, Dt.wRg1, Dt.wRg2, Dt.wSl, Dt.oNone, Dt.oSome, Dt.wJoin, Dt.wSplit, Dt.wDisp, Dt.psCons, Dt.psNil, Dt.wBor, Dt.wBorT, Dt.wBorF, Dt.wDrop, Dt.wNeg, Dt.wInt, Dt.wCh, Dt.wStar, Dt.wStA, Dt.gU, Dt.wRev, Dt.wProp, Dt.wFld, Dt.wRaise0, Dt.wRaise1, Dt.wApp, Dt.wSetI, Dt.wPutI, Dt.ownL, Dt.ownM, Dt.wCallD, Dt.wCallK, Dt.mPre, Dt.mSto, Dt.mNil, Dt.asB, Dt.asI, Dt.asS, Dt.asK, Dt.asL, Dt.truW, Dt.addW, Dt.addF, Dt.subW, Dt.iiW, Dt.ciW, Dt.ltW, Dt.leW, Dt.gtW, Dt.geW, Dt.mulW, Dt.fdivW, Dt.modW, Dt.iltW, Dt.iltW.iiB, Dt.ileW, Dt.ixW, Dt.slW, Dt.slF, Dt.lenW, Dt.intW, Dt.absW, Dt.ii2, Dt.listW, Dt.tupleW, Dt.dictW, Dt.inW, Dt.notInW, Dt.isNW, Dt.isNotNW, Dt.isN, Dt.lenOW, Dt.eqW_ii, Dt.neW_ii, Dt.eqW_bb, Dt.eqW_ss, Dt.neW_ss, Dt.isK_non_bool, Dt.isK_non_int, Dt.isK_non_str, Dt.isK_non_list, Dt.isK_non_tuple, Dt.isK_non_dict, Dt.isK_bl_bool, Dt.isK_bl_int, Dt.isK_bl_str, Dt.isK_bl_list, Dt.isK_bl_tuple, Dt.isK_bl_dict, Dt.isK_int_bool, Dt.isK_int_int, Dt.isK_int_str, Dt.isK_int_list, Dt.isK_int_tuple, Dt.isK_int_dict, Dt.isK_str_bool, Dt.isK_str_int, Dt.isK_str_str, Dt.isK_str_list, Dt.isK_str_tuple, Dt.isK_str_dict, Dt.isK_lst_bool, Dt.isK_lst_int, Dt.isK_lst_str, Dt.isK_lst_list, Dt.isK_lst_tuple, Dt.isK_lst_dict, Dt.isK_tup_bool, Dt.isK_tup_int, Dt.isK_tup_str, Dt.isK_tup_list, Dt.isK_tup_tuple, Dt.isK_tup_dict, Dt.isK_dct_bool, Dt.isK_dct_int, Dt.isK_dct_str, Dt.isK_dct_list, Dt.isK_dct_tuple, Dt.isK_dct_dict, Dt.isK_ins_bool, Dt.isK_ins_int, Dt.isK_ins_str, Dt.isK_ins_list, Dt.isK_ins_tuple, Dt.isK_ins_dict, Dt.gN, Dt.gT, Dt.gsCons, Dt.gsNil, Dt.δ0, Dt.frz, Dt.wipeD, Dt.keyD, Dt.De0, List.map_cons, List.map_nil, List.length_cons, List.length_nil, List.replicate_succ, List.replicate_zero, List.cons_append, List.nil_append, List.getElem?_cons_zero, List.getElem?_cons_succ, List.set_cons_zero, List.set_cons_succ, Nat.reduceSub, Nat.reduceAdd, Nat.zero_add, reduceIte, Bool.not_true, Bool.not_false, Bool.false_eq_true, Bool.not_eq_true, Bool.true_eq_false, true_and, and_true, ne_eq, decide_eq_true_eq, Bool.not_eq_eq_eq_not, decide_eq_false_iff_not, Option.isSome_some, Option.isSome_none, Bool.or_eq_true, Bool.and_eq_true]
      rw [if_neg (by simp)]
      refine ⟨_, at0 _ _, tx1 _ _ ?_⟩
      simp only [Dt.wSeq, Dt.wIfS, Dt.wRet, Dt.wSet, Dt.wOwn, Dt.wAsg, Dt.wPar2, Dt.wPar3, Dt.xV, Dt.xO, Dt.wVar, Dt.wC, Dt.wCB, Dt.wCons, Dt.wNil, Dt.wOp, Dt.wTru, Dt.wB, Dt.wNot, Dt.wAnd, Dt.wOr, Dt.wV, Dt.wAndV, Dt.wOrV, Dt.wNotV, Dt.wIf, Dt.wCall, Dt.wLst, Dt.wTup, Dt.wLc, Dt.wForS, Dt.wItems, Dt.wEn, Dt.wZi, Dt.wRg1, Dt.wRg2, Dt.wSl, Dt.oNone, Dt.oSome, Dt.wJoin, Dt.wSplit, Dt.wDisp, Dt.psCons, Dt.psNil, Dt.wBor, Dt.wBorT, Dt.wBorF, Dt.wDrop, Dt.wNeg, Dt.wInt, Dt.wCh, Dt.wStar, Dt.wStA, Dt.gU, Dt.wRev, Dt.wProp, Dt.wFld, Dt.wRaise0, Dt.wRaise1, Dt.wApp, Dt.wSetI, Dt.wPutI, Dt.ownL, Dt.ownM, Dt.wCallD, Dt.wCallK, Dt.mPre, Dt.mSto, Dt.mNil, Dt.asB, Dt.asI, Dt.asS, Dt.asK, Dt.asL, Dt.truW, Dt.addW, Dt.addF, Dt.subW, Dt.iiW, Dt.ciW, Dt.ltW, Dt.leW, Dt.gtW, Dt.geW, Dt.mulW, Dt.fdivW, Dt.modW, Dt.iltW, Dt.iltW.iiB, Dt.ileW, Dt.ixW, Dt.slW, Dt.slF, Dt.lenW, Dt.intW, Dt.absW, Dt.ii2, Dt.listW, Dt.tupleW, Dt.dictW, Dt.inW, Dt.notInW, Dt.isNW, Dt.isNotNW, Dt.isN, Dt.lenOW, Dt.eqW_ii, Dt.neW_ii, Dt.eqW_bb, Dt.eqW_ss, Dt.neW_ss, Dt.isK_non_bool, Dt.isK_non_int, Dt.isK_non_str, Dt.isK_non_list, Dt.isK_non_tuple, Dt.isK_non_dict, Dt.isK_bl_bool, Dt.isK_bl_int, Dt.isK_bl_str, Dt.isK_bl_list, Dt.isK_bl_tuple, Dt.isK_bl_dict, Dt.isK_int_bool, Dt.isK_int_int, Dt.isK_int_str, Dt.isK_int_list, Dt.isK_int_tuple, Dt.isK_int_dict, Dt.isK_str_bool, Dt.isK_str_int, Dt.isK_str_str, Dt.isK_str_list, Dt.isK_str_tuple, Dt.isK_str_dict, Dt.isK_lst_bool, Dt.isK_lst_int, Dt.isK_lst_str, Dt.isK_lst_list, Dt.isK_lst_tuple, Dt.isK_lst_dict, Dt.isK_tup_bool, Dt.isK_tup_int, Dt.isK_tup_str, Dt.isK_tup_list, Dt.isK_tup_tuple, Dt.isK_tup_dict, Dt.isK_dct_bool, Dt.isK_dct_int, Dt.isK_dct_str, Dt.isK_dct_list, Dt.isK_dct_tuple, Dt.isK_dct_dict, Dt.isK_ins_bool, Dt.isK_ins_int, Dt.isK_ins_str, Dt.isK_ins_list, Dt.isK_ins_tuple, Dt.isK_ins_dict, Dt.gN, Dt.gT, Dt.gsCons, Dt.gsNil, Dt.δ0, Dt.frz, Dt.wipeD, Dt.keyD, Dt.De0, List.map_cons, List.map_nil, List.length_cons, List.length_nil, List.replicate_succ, List.replicate_zero, List.cons_append, List.nil_append, List.getElem?_cons_zero, List.getElem?_cons_succ, List.set_cons_zero, List.set_cons_succ, Nat.reduceSub, Nat.reduceAdd, Nat.zero_add, reduceIte, Bool.not_true, Bool.not_false, Bool.false_eq_true, Bool.not_eq_true, Bool.true_eq_false, true_and, and_true, ne_eq, decide_eq_true_eq, Bool.not_eq_eq_eq_not, decide_eq_false_iff_not, Option.isSome_some, Option.isSome_none, Bool.or_eq_true, Bool.and_eq_true]
      rw [if_neg (by simp)]
      exact hn m _ (by omega) (by omega) ⟨rfl, rfl⟩
theorem pl_law {K : PySem.W.Frag} (kr : KRec K) (st l c : Addr) (ns : List Int) (hl : ns.length ≤ 63) : w_law K ⟨dr st l c, fun _ _ => False⟩ ⟨fun _ _ => False, fun _ d => d = .bl true, fun _ _ => False, fun _ _ => False⟩ 0 ((δ0 ["_law_script", "_law_state", "_law_turn", "_law_model_here", "_law_made", "_law_page_here", "_law_found", "_law_other"] [.scr ns]).set 1 (.v (.obj (.ref st)))) := by
  have hm : 0 ≤ minI ns.length 20 ∧ minI ns.length 20 ≤ 20 := by
    unfold minI
    split <;> omega
  simp only [w_law, Dt.wSeq, Dt.wIfS, Dt.wRet, Dt.wSet, Dt.wOwn, Dt.wAsg, Dt.wPar2, Dt.wPar3, Dt.xV, Dt.xO, Dt.wVar, Dt.wC, Dt.wCB, Dt.wCons, Dt.wNil, Dt.wOp, Dt.wTru, Dt.wB, Dt.wNot, Dt.wAnd, Dt.wOr, Dt.wV, Dt.wAndV, Dt.wOrV, Dt.wNotV, Dt.wIf, Dt.wCall, Dt.wLst, Dt.wTup, Dt.wLc, Dt.wForS, Dt.wItems, Dt.wEn, Dt.wZi, Dt.wRg1, Dt.wRg2, Dt.wSl, Dt.oNone, Dt.oSome, Dt.wJoin, Dt.wSplit, Dt.wDisp, Dt.psCons, Dt.psNil, Dt.wBor, Dt.wBorT, Dt.wBorF, Dt.wDrop, Dt.wNeg, Dt.wInt, Dt.wCh, Dt.wStar, Dt.wStA, Dt.gU, Dt.wRev, Dt.wProp, Dt.wFld, Dt.wRaise0, Dt.wRaise1, Dt.wApp, Dt.wSetI, Dt.wPutI, Dt.ownL, Dt.ownM, Dt.wCallD, Dt.wCallK, Dt.mPre, Dt.mSto, Dt.mNil, Dt.asB, Dt.asI, Dt.asS, Dt.asK, Dt.asL, Dt.truW, Dt.addW, Dt.addF, Dt.subW, Dt.iiW, Dt.ciW, Dt.ltW, Dt.leW, Dt.gtW, Dt.geW, Dt.mulW, Dt.fdivW, Dt.modW, Dt.iltW, Dt.iltW.iiB, Dt.ileW, Dt.ixW, Dt.slW, Dt.slF, Dt.lenW, Dt.intW, Dt.absW, Dt.ii2, Dt.listW, Dt.tupleW, Dt.dictW, Dt.inW, Dt.notInW, Dt.isNW, Dt.isNotNW, Dt.isN, Dt.lenOW, Dt.eqW_ii, Dt.neW_ii, Dt.eqW_bb, Dt.eqW_ss, Dt.neW_ss, Dt.isK_non_bool, Dt.isK_non_int, Dt.isK_non_str, Dt.isK_non_list, Dt.isK_non_tuple, Dt.isK_non_dict, Dt.isK_bl_bool, Dt.isK_bl_int, Dt.isK_bl_str, Dt.isK_bl_list, Dt.isK_bl_tuple, Dt.isK_bl_dict, Dt.isK_int_bool, Dt.isK_int_int, Dt.isK_int_str, Dt.isK_int_list, Dt.isK_int_tuple, Dt.isK_int_dict, Dt.isK_str_bool, Dt.isK_str_int, Dt.isK_str_str, Dt.isK_str_list, Dt.isK_str_tuple, Dt.isK_str_dict, Dt.isK_lst_bool, Dt.isK_lst_int, Dt.isK_lst_str, Dt.isK_lst_list, Dt.isK_lst_tuple, Dt.isK_lst_dict, Dt.isK_tup_bool, Dt.isK_tup_int, Dt.isK_tup_str, Dt.isK_tup_list, Dt.isK_tup_tuple, Dt.isK_tup_dict, Dt.isK_dct_bool, Dt.isK_dct_int, Dt.isK_dct_str, Dt.isK_dct_list, Dt.isK_dct_tuple, Dt.isK_dct_dict, Dt.isK_ins_bool, Dt.isK_ins_int, Dt.isK_ins_str, Dt.isK_ins_list, Dt.isK_ins_tuple, Dt.isK_ins_dict, Dt.gN, Dt.gT, Dt.gsCons, Dt.gsNil, Dt.δ0, Dt.frz, Dt.wipeD, Dt.keyD, Dt.De0, List.map_cons, List.map_nil, List.length_cons, List.length_nil, List.replicate_succ, List.replicate_zero, List.cons_append, List.nil_append, List.getElem?_cons_zero, List.getElem?_cons_succ, List.set_cons_zero, List.set_cons_succ, Nat.reduceSub, Nat.reduceAdd, Nat.zero_add, reduceIte, Bool.not_true, Bool.not_false, Bool.false_eq_true, Bool.not_eq_true, Bool.true_eq_false, true_and, and_true, ne_eq, decide_eq_true_eq, Bool.not_eq_eq_eq_not, decide_eq_false_iff_not, Option.isSome_some, Option.isSome_none, Bool.or_eq_true, Bool.and_eq_true]
  refine ⟨_, rfl, by omega, by omega, ?_⟩
  refine for_ind (fun rest n δ => n + 510 * rest.length ≤ 510 * 24 ∧ Sh st δ) ?_ ?_ _ _ _ ?_
  · intro n δ _
    rfl
  · rintro d rest n δ W ⟨h1, h2⟩ hW
    rw [List.length_cons] at h1
    refine turn_ok kr ⟨⟨l, c, rfl⟩, by omega⟩ ⟨by rw [List.length_set]; exact h2.len, by rw [List.getElem?_set_ne (by decide)]; exact h2.st⟩ fun n' δ' h3 h4 h5 => hW n' δ' ⟨by omega, h5⟩
  · refine ⟨?_, ⟨rfl, rfl⟩⟩
    simp [rgD]
    omega

end Pk

namespace Pk
open PySem PySem.Spec PyProof.Rows L2 Dt
def top (i : Nat) : Stmt := PySem.Challenge.pw_keencone_k60_texts_of_records.main.body.getD i (.Pass ⟨0, 0, 0, 0⟩)
def inn (i j : Nat) : Stmt := match top i with | .ClassDef _ _ _ b _ _ _ _ _ _ _ => b.getD j (.Pass ⟨0, 0, 0, 0⟩) | s => s
structure Fx (K : PySem.W.Frag) (mg : Str → Option Value) : Prop where
  sm : KSm K
  kr : KRec K
  g_all : mg "all" = none
  g_enumerate : mg "enumerate" = none
  g_int : mg "int" = none
  g_isinstance : mg "isinstance" = none
  g_len : mg "len" = none
  g_list : mg "list" = none
  g_min : mg "min" = none
  g_property : mg "property" = none
  g_range : mg "range" = none
  g_repr : mg "repr" = none
  g_sorted : mg "sorted" = none
  g_str : mg "str" = none
  g_tuple : mg "tuple" = none
  m_KeenError : mg "KeenError" = some (.ref (He.ga K "KeenError"))
  m_BadRecord : mg "BadRecord" = some (.ref (He.ga K "BadRecord"))
  m_BadReport : mg "BadReport" = some (.ref (He.ga K "BadReport"))
  m_BadText : mg "BadText" = some (.ref (He.ga K "BadText"))
  m_Record : mg "Record" = some (.ref (He.ga K "Record"))
  m_is_name : mg "is_name" = some (.ref (He.ga K "is_name"))
  m_are_names : mg "are_names" = some (.ref (He.ga K "are_names"))
  m_is_one_of : mg "is_one_of" = some (.ref (He.ga K "is_one_of"))
  m_is_plain : mg "is_plain" = some (.ref (He.ga K "is_plain"))
  m_is_report : mg "is_report" = some (.ref (He.ga K "is_report"))
  m_record_text : mg "record_text" = some (.ref (He.ga K "record_text"))
  m_names_in : mg "names_in" = some (.ref (He.ga K "names_in"))
  m_read_record : mg "read_record" = some (.ref (He.ga K "read_record"))
  m__law_begun : mg "_law_begun" = some (.ref (He.ga K "_law_begun"))
  m__law_mixed : mg "_law_mixed" = some (.ref (He.ga K "_law_mixed"))
  m__law_take : mg "_law_take" = some (.ref (He.ga K "_law_take"))
  m__law_pick : mg "_law_pick" = some (.ref (He.ga K "_law_pick"))
  m__law_word : mg "_law_word" = some (.ref (He.ga K "_law_word"))
  m__law_words : mg "_law_words" = some (.ref (He.ga K "_law_words"))
  m__law_report : mg "_law_report" = some (.ref (He.ga K "_law_report"))
  m__law_model : mg "_law_model" = some (.ref (He.ga K "_law_model"))
  m__law_record : mg "_law_record" = some (.ref (He.ga K "_law_record"))
  m__law_page : mg "_law_page" = some (.ref (He.ga K "_law_page"))
  m_law : mg "law" = some (.ref (He.ga K "law"))
  v_LETTERS : ∃ t, mg "LETTERS" = some (.str "abcdefghijklmnopqrstuvwxyz" t)
  v_LONGEST : ∃ t, mg "LONGEST" = some (.int 8 t)
  v_MOST_OBSERVERS : ∃ t, mg "MOST_OBSERVERS" = some (.int 4 t)
  v_LEAST_THINGS : ∃ t, mg "LEAST_THINGS" = some (.int 2 t)
  v_MOST_THINGS : ∃ t, mg "MOST_THINGS" = some (.int 8 t)
  v_MOST_REPORTS : ∃ t, mg "MOST_REPORTS" = some (.int 30 t)
  m_ANSWERS : mg "ANSWERS" = some (.ref (He.ga K "ANSWERS"))
  r_ANSWERS : ∀ I, Rep K I (.ref (He.ga K "ANSWERS")) (.tup [(.str "less"), (.str "more"), (.str "none")])
  m_HEADS : mg "HEADS" = some (.ref (He.ga K "HEADS"))
  r_HEADS : ∀ I, Rep K I (.ref (He.ga K "HEADS")) (.tup [(.tup [(.str "observers"), (.int 1), (.int 4)]), (.tup [(.str "things"), (.int 2), (.int 8)])])
  x_KeenError : PySem.W.excIn K (He.ga K "KeenError") He.veBase "ValueError.__new__" = true
  k_KeenError : PySem.W.keepIn K (.ref (He.ga K "KeenError")) = true
  s_KeenError : PySem.W.subIn K (.ref (He.ga K "KeenError")) (.type "BaseException") = some true
  t_KeenError : PySem.W.typeIn K (.ref (He.ga K "KeenError")) = some (.type "type")
  x_BadRecord : PySem.W.excIn K (He.ga K "BadRecord") He.veBase "ValueError.__new__" = true
  k_BadRecord : PySem.W.keepIn K (.ref (He.ga K "BadRecord")) = true
  s_BadRecord : PySem.W.subIn K (.ref (He.ga K "BadRecord")) (.type "BaseException") = some true
  t_BadRecord : PySem.W.typeIn K (.ref (He.ga K "BadRecord")) = some (.type "type")
  o_BadReport : OexC K (He.ga K "BadReport")
  i_BadReport : initB K "BadReport" = true
  n_BadReport : PySem.W.findIn K (.ref (He.ga K "BadReport")) "index" = some none
  d_init_BadReport : ∃ fd, FunD K "__init__" "BadReport.__init__" (defArgs (inn 4 0)) (defBody (inn 4 0)) (defScope (inn 4 0)) [] [] (He.ma K (He.ga K "BadReport") "__init__") fd
  o_BadText : OexC K (He.ga K "BadText")
  i_BadText : initB K "BadText" = true
  n_BadText : PySem.W.findIn K (.ref (He.ga K "BadText")) "line" = some none
  d_init_BadText : ∃ fd, FunD K "__init__" "BadText.__init__" (defArgs (inn 7 0)) (defBody (inn 7 0)) (defScope (inn 7 0)) [] [] (He.ma K (He.ga K "BadText") "__init__") fd
  ci : ciB K (He.ga K "KeenError") = true
  d_is_name : ∃ fd, FunD K "is_name" "is_name" (defArgs (top 17)) (defBody (top 17)) (defScope (top 17)) [] [] (He.ga K "is_name") fd
  d_are_names : ∃ fd, FunD K "are_names" "are_names" (defArgs (top 18)) (defBody (top 18)) (defScope (top 18)) [] [] (He.ga K "are_names") fd
  d_is_one_of : ∃ fd, FunD K "is_one_of" "is_one_of" (defArgs (top 19)) (defBody (top 19)) (defScope (top 19)) [] [] (He.ga K "is_one_of") fd
  d_is_plain : ∃ fd, FunD K "is_plain" "is_plain" (defArgs (top 20)) (defBody (top 20)) (defScope (top 20)) [] [] (He.ga K "is_plain") fd
  d_is_report : ∃ fd, FunD K "is_report" "is_report" (defArgs (top 21)) (defBody (top 21)) (defScope (top 21)) [] [] (He.ga K "is_report") fd
  d_record_text : ∃ fd, FunD K "record_text" "record_text" (defArgs (top 27)) (defBody (top 27)) (defScope (top 27)) [] [] (He.ga K "record_text") fd
  d_names_in : ∃ fd, FunD K "names_in" "names_in" (defArgs (top 28)) (defBody (top 28)) (defScope (top 28)) [] [] (He.ga K "names_in") fd
  d_read_record : ∃ fd, FunD K "read_record" "read_record" (defArgs (top 29)) (defBody (top 29)) (defScope (top 29)) [] [] (He.ga K "read_record") fd
  d__law_begun : ∃ fd, FunD K "_law_begun" "_law_begun" (defArgs (top 31)) (defBody (top 31)) (defScope (top 31)) [] [] (He.ga K "_law_begun") fd
  d__law_mixed : ∃ fd, FunD K "_law_mixed" "_law_mixed" (defArgs (top 32)) (defBody (top 32)) (defScope (top 32)) [] [] (He.ga K "_law_mixed") fd
  d__law_take : ∃ fd, FunD K "_law_take" "_law_take" (defArgs (top 33)) (defBody (top 33)) (defScope (top 33)) [] [] (He.ga K "_law_take") fd
  d__law_pick : ∃ fd, FunD K "_law_pick" "_law_pick" (defArgs (top 34)) (defBody (top 34)) (defScope (top 34)) [] [] (He.ga K "_law_pick") fd
  d__law_word : ∃ fd, FunD K "_law_word" "_law_word" (defArgs (top 35)) (defBody (top 35)) (defScope (top 35)) [] [] (He.ga K "_law_word") fd
  d__law_words : ∃ fd, FunD K "_law_words" "_law_words" (defArgs (top 36)) (defBody (top 36)) (defScope (top 36)) [] [] (He.ga K "_law_words") fd
  d__law_report : ∃ fd, FunD K "_law_report" "_law_report" (defArgs (top 37)) (defBody (top 37)) (defScope (top 37)) [] [] (He.ga K "_law_report") fd
  d__law_model : ∃ fd, FunD K "_law_model" "_law_model" (defArgs (top 38)) (defBody (top 38)) (defScope (top 38)) [] [] (He.ga K "_law_model") fd
  d__law_record : ∃ fd, FunD K "_law_record" "_law_record" (defArgs (top 39)) (defBody (top 39)) (defScope (top 39)) [] [] (He.ga K "_law_record") fd
  d__law_page : ∃ fd, FunD K "_law_page" "_law_page" (defArgs (top 40)) (defBody (top 40)) (defScope (top 40)) [] [] (He.ga K "_law_page") fd
  d_law : ∃ fd, FunD K "law" "law" (defArgs (top 41)) (defBody (top 41)) (defScope (top 41)) [] [] (He.ga K "law") fd
  cls_Record : Cls K (He.ga K "Record")
  mk_Record : Mk K (He.ga K "Record") (He.ma K (He.ga K "Record") "__init__")
  d_Record___init__ : ∃ fd, FunD K "__init__" "Record.__init__" (defArgs (inn 22 0)) (defBody (inn 22 0)) (defScope (inn 22 0)) [.ref (He.dflAt ("Record", some "__init__") 0 K)] [] (He.ma K (He.ga K "Record") "__init__") fd
  df_Record : ∀ I, RepL K I [.ref (He.dflAt ("Record", some "__init__") 0 K)] [.tup []]
  no_Record_own_observers : NoAttr K (He.ga K "Record") "own_observers"
  pr_observers : PropOf K (He.ga K "Record") "observers" (He.ma K (He.ga K "Record") "observers") (prG K "Record" "observers")
  d_Record_observers : ∃ fd, FunD K "observers" "Record.observers" (defArgs (inn 22 1)) (defBody (inn 22 1)) (defScope (inn 22 1)) [] [] (prG K "Record" "observers") fd
  no_Record_own_things : NoAttr K (He.ga K "Record") "own_things"
  pr_things : PropOf K (He.ga K "Record") "things" (He.ma K (He.ga K "Record") "things") (prG K "Record" "things")
  d_Record_things : ∃ fd, FunD K "things" "Record.things" (defArgs (inn 22 2)) (defBody (inn 22 2)) (defScope (inn 22 2)) [] [] (prG K "Record" "things") fd
  no_Record_own_reports : NoAttr K (He.ga K "Record") "own_reports"
  pr_reports : PropOf K (He.ga K "Record") "reports" (He.ma K (He.ga K "Record") "reports") (prG K "Record" "reports")
  d_Record_reports : ∃ fd, FunD K "reports" "Record.reports" (defArgs (inn 22 3)) (defBody (inn 22 3)) (defScope (inn 22 3)) [] [] (prG K "Record" "reports") fd
  d_Record___eq__ : ∃ fd, FunD K "__eq__" "Record.__eq__" (defArgs (inn 22 5)) (defBody (inn 22 5)) (defScope (inn 22 5)) [] [] (He.ma K (He.ga K "Record") "__eq__") fd
  eq_Record : EqC K (He.ga K "Record") (He.ma K (He.ga K "Record") "__eq__")
section
variable {P : Program} {w : World} {K : PySem.W.Frag} {mg : Str → Option Value} {base : Heap}
theorem sci_BadReport : FnScope ["self", "index"] ["self", "index"] (defScope (inn 4 0)) := ⟨rfl, rfl, rfl, by decide +kernel, rfl, by decide +kernel, by decide +kernel⟩
theorem c_init_BadReport (fx : Fx K mg) : GInit P w K mg base "BadReport" "index" 1 := by
  obtain ⟨fd, F⟩ := fx.d_init_BadReport
  exact ⟨fd, ["self", "index"], init_of (k := 0) F sci_BadReport rfl rfl fx.o_BadReport fx.n_BadReport fun cdv A outer s H E g => pss_cons (ps_expr (pe_clsInit fx.m_KeenError (ciB_ok fx.ci).1 (ciB_ok fx.ci).2 (pa_cons (pe_var rfl (.inl rfl)) (pa_cons pe_str pa_nil)))) (pss_one (ps_ost (pe_var rfl (.inl rfl)) (pe_var rfl (.inl rfl)))), F.bindsN fun _ _ _ _ _ _ us hl => match us, hl with | [_, _], _ => rfl⟩
theorem sci_BadText : FnScope ["self", "line"] ["self", "line"] (defScope (inn 7 0)) := ⟨rfl, rfl, rfl, by decide +kernel, rfl, by decide +kernel, by decide +kernel⟩
theorem c_init_BadText (fx : Fx K mg) : GInit P w K mg base "BadText" "line" 1 := by
  obtain ⟨fd, F⟩ := fx.d_init_BadText
  exact ⟨fd, ["self", "line"], init_of (k := 0) F sci_BadText rfl rfl fx.o_BadText fx.n_BadText fun cdv A outer s H E g => pss_cons (ps_expr (pe_clsInit fx.m_KeenError (ciB_ok fx.ci).1 (ciB_ok fx.ci).2 (pa_cons (pe_var rfl (.inl rfl)) (pa_cons pe_str pa_nil)))) (pss_one (ps_ost (pe_var rfl (.inl rfl)) (pe_var rfl (.inl rfl)))), F.bindsN fun _ _ _ _ _ _ us hl => match us, hl with | [_, _], _ => rfl⟩

theorem scB : FnScope ["_law_script", "_law_large", "_law_cell"] ["_law_script"] (defScope (top 31)) := ⟨rfl, rfl, rfl, by decide +kernel, rfl, by decide +kernel, by decide +kernel⟩
theorem c__law_begun (fx : Fx K mg) : ∃ (f : Addr) (fd : FuncData) (ps : List Str), FnOk P w K mg base (L2.CX P w) 1 f fd ps (spBeg K) ∧ mg "_law_begun" = some (.ref f) ∧ PySem.W.keepIn K (.ref f) = true ∧ Binds K fd ps [] := by
  obtain ⟨fd, F⟩ := fx.d__law_begun
  exact ⟨_, fd, ["_law_script"], beg_of (k := 0) F scB rfl rfl fun cdv A outer s H E g =>
    beg_body g (dlc (di_seq (de_var 0)) [("_law_cell", 2)] rfl (fun s H C cl fp => dg_name g.blk.nd 2) (fun s H C cl fp => dts_one (dt_ge g.blk (de_var 2) (de_pow de_int de_int))) (fun s H C cl fp => de_sub (de_var 2) (de_pow de_int de_int)) (by simp))
      (df_list g fx.g_list (de_var 0)) pe_str pe_str pe_str pe_str (pe_var rfl (.inl rfl)) pe_int pe_int (sw_true rfl rfl rfl (by decide +kernel)), fx.m__law_begun, F.kp, F.bindsN fun _ _ _ _ _ _ us hl => match us, hl with | [_], _ => rfl⟩
theorem scM : FnScope ["_law_state", "_law_found", "_law_prime", "_law_blend", "_law_cell"] ["_law_state"] (defScope (top 32)) := ⟨rfl, rfl, rfl, by decide +kernel, rfl, by decide +kernel, by decide +kernel⟩
theorem ok_mixed {f : Addr} {fd : FuncData} (F : FunD K "_law_mixed" "_law_mixed" (defArgs (top 32)) (defBody (top 32)) (defScope (top 32)) [] [] f fd) (gI : mg "int" = none) : FnOk P w K mg base (L2.CX P w) 1 f fd ["_law_state"] spMix :=
  mix_of (k := 0) F scM rfl rfl fun cdv A outer s H E g =>
    mix_body g (pe_var rfl (.inl rfl)) pe_str (de_add (de_ix g (de_var 0) de_str) de_int)
      (dss_cons (ds_set g 1 de_int) (dss_cons (ds_for g (di_seq (df_lst (da_cons de_int (da_cons de_int (da_cons de_int (da_cons de_int (da_cons de_int (da_cons de_int da_nil))))))).de) (dg_name g.nd 2)
        (dss_cons (ds_set g 3 (de_add (de_mul de_int (de_ix g (de_var 0) de_str)) (de_fdiv (de_var 2) de_int)))
          (dss_cons (ds_for g (di_seq (de_ix g (de_var 0) de_str)) (dg_name g.nd 4) (dss_one (ds_set g 3 (de_mod (de_toInt gI (de_add (de_mul (de_var 3) de_int) (de_var 4))) (de_var 2)))))
            (dss_one (ds_set g 1 (de_add (de_mul (de_var 1) de_int) (de_mod (de_toInt gI (de_pow (de_var 3) de_int)) (de_var 2)))))))) (dss_one (ds_ret (de_var 1)))))
theorem scT : FnScope ["_law_state", "_law_size", "_law_found"] ["_law_state", "_law_size"] (defScope (top 33)) := ⟨rfl, rfl, rfl, by decide +kernel, rfl, by decide +kernel, by decide +kernel⟩
theorem c__law_take (fx : Fx K mg) : GFnO P w K mg base "_law_take" 2 cfTake := by
  obtain ⟨fd, F⟩ := fx.d__law_take
  obtain ⟨fd1, F1⟩ := fx.d__law_mixed
  exact ⟨_, fd, ["_law_state", "_law_size"], take_of (k := 1) F scT rfl rfl fun cdv A outer s H E g =>
    take_body g (ok_mixed F1 fx.g_int) fx.m__law_mixed F1.kp (F1.bindsN fun _ _ _ _ _ _ us hl => match us, hl with | [_], _ => rfl) (dt_eq g (de_ix g (de_var 0) de_str) de_int) (dt_ne g (de_ix g (de_var 0) de_str) (df_lst da_nil).de) (pe_var rfl (.inl rfl)) pe_str (pe_var rfl (.inl rfl)) pe_str pe_int (pe_var rfl (.inl rfl))
      (de_mod (de_toInt fx.g_int (de_ix g (de_var 0) de_str)) (de_var 1)) (pe_var rfl (.inl rfl)) pe_str (de_fdiv (de_ix g (de_var 0) de_str) (de_var 1)) (pe_var rfl (.inl rfl)), fx.m__law_take, F.kp, F.bindsN fun _ _ _ _ _ _ us hl => match us, hl with | [_, _], _ => rfl⟩
theorem scP : FnScope ["_law_state", "_law_some"] ["_law_state", "_law_some"] (defScope (top 34)) := ⟨rfl, rfl, rfl, by decide +kernel, rfl, by decide +kernel, by decide +kernel⟩
theorem c__law_pick (fx : Fx K mg) : GFnO P w K mg base "_law_pick" 3 cfPick := by
  obtain ⟨fd, F⟩ := fx.d__law_pick
  exact ⟨_, fd, ["_law_state", "_law_some"], conO_of (k := 2) F scP (fun c n ds P ⟨_, _, _, _, e, _⟩ => by rw [e]; rfl) fun cdv A outer s H E g =>
    ⟨_, dss_one (ds_ret (de_ix g (de_var 1) (de_callO g (c__law_take fx) (da_cons (de_var 0) (da_cons (de_len fx.g_len (de_var 1)) da_nil))))), fun c n ds P h => by
      have := pick_ok c n ds P h
      obtain ⟨_, _, _, _, rfl, _⟩ := h
      exact this⟩, fx.m__law_pick, F.kp, F.bindsN fun _ _ _ _ _ _ us hl => match us, hl with | [_, _], _ => rfl⟩

theorem sc_is_name : FnScope ["value", "letter"] ["value"] (defScope (top 17)) := ⟨rfl, rfl, rfl, by decide +kernel, rfl, by decide +kernel, by decide +kernel⟩
theorem len_is_name {K : PySem.W.Frag} : ∀ c n ds P, cf_is_name K c n ds P → ds.length = 1 := by
  intro c n ds P h
  unfold cf_is_name at h
  split at h
  · rfl
  · exact h.elim
theorem c_is_name (fx : Fx K mg) : GFnO P w K mg base "is_name" 1 (cf_is_name K) := by
  obtain ⟨fd, F⟩ := fx.d_is_name
  exact ⟨_, fd, ["value"], conO_of (k := 0) F sc_is_name len_is_name fun cdv A outer s H E g => ⟨w_is_name K, (dss_cons (ds_if (DW.dt (dw_or (dt_not (dt_val (de_isx fx.g_isinstance (da_cons (de_var 0) (da_cons (de_gty fx.g_str (by decide +kernel)) da_nil))))) (dw_or1 (dt_not (dt_lele de_int (de_len fx.g_len (de_var 0)) (de_gint fx.v_LONGEST)))))) (dss_one (ds_ret de_bl)) dss_nil) (dss_one (ds_ret (de_all g fx.g_all (df_lc g (dlc (di_seq (de_var 0)) [("letter", 1)] rfl (fun s H C cl fp => (dg_name g.blk.nd 1)) (fun s H C cl fp => dts_nil) (fun s H C cl fp => (de_in g.blk (de_var 1) (de_gstr fx.v_LETTERS))) (by simp))).de)))), fun c n ds P h => pl_is_name c n ds P h⟩, fx.m_is_name, F.kp, F.bindsN fun _ _ _ _ _ _ us hl => match us, hl with | [_], _ => rfl⟩
theorem sc_is_one_of : FnScope ["value", "names"] ["value", "names"] (defScope (top 19)) := ⟨rfl, rfl, rfl, by decide +kernel, rfl, by decide +kernel, by decide +kernel⟩
theorem len_is_one_of {K : PySem.W.Frag} : ∀ c n ds P, cf_is_one_of K c n ds P → ds.length = 2 := by
  intro c n ds P h
  unfold cf_is_one_of at h
  split at h
  · rfl
  · exact h.elim
theorem c_is_one_of (fx : Fx K mg) : GFnO P w K mg base "is_one_of" 1 (cf_is_one_of K) := by
  obtain ⟨fd, F⟩ := fx.d_is_one_of
  exact ⟨_, fd, ["value", "names"], conO_of (k := 0) F sc_is_one_of len_is_one_of fun cdv A outer s H E g => ⟨w_is_one_of K, (dss_one (ds_ret (de_and (de_isx fx.g_isinstance (da_cons (de_var 0) (da_cons (de_gty fx.g_str (by decide +kernel)) da_nil))) (de_one (de_in g (de_var 0) (de_var 1)))))), fun c n ds P h => pl_is_one_of c n ds P h⟩, fx.m_is_one_of, F.kp, F.bindsN fun _ _ _ _ _ _ us hl => match us, hl with | [_, _], _ => rfl⟩
theorem sc__law_page : FnScope ["_law_model_here", "_law_lines", "_law_watcher", "_law_near", "_law_far", "_law_word_here", "_law_words_here"] ["_law_model_here"] (defScope (top 40)) := ⟨rfl, rfl, rfl, by decide +kernel, rfl, by decide +kernel, by decide +kernel⟩
theorem len__law_page {K : PySem.W.Frag} : ∀ c n ds P, cf__law_page K c n ds P → ds.length = 1 := by
  intro c n ds P h
  unfold cf__law_page at h
  split at h
  · rfl
  · exact h.elim
theorem c__law_page (fx : Fx K mg) : GFnO P w K mg base "_law_page" 1 (cf__law_page K) := by
  obtain ⟨fd, F⟩ := fx.d__law_page
  exact ⟨_, fd, ["_law_model_here"], conO_of (k := 0) F sc__law_page len__law_page fun cdv A outer s H E g => ⟨w__law_page K, (dss_cons (ds_own g 1 (df_lst (da_cons (de_add (df_lst (da_cons de_str da_nil)).de (DF.de (df_sorted fx.g_sorted (de_ix g (de_var 0) de_str)))) (da_cons (de_add (df_lst (da_cons de_str da_nil)).de (DF.de (df_sorted fx.g_sorted (de_ix g (de_var 0) de_str)))) da_nil)))) (dss_cons (ds_for g (di_seq (de_ix g (de_var 0) de_str)) (dg_tup g.calm (dgs_cons (dg_name g.nd 2) (dgs_cons (dg_name g.nd 3) (dgs_cons (dg_name g.nd 4) (dgs_cons (dg_name g.nd 5) dgs_nil))))) (dss_one (ds_app 1 (df_lst (da_cons (de_var 2) (da_cons (de_var 3) (da_cons (de_var 5) (da_cons (de_var 4) da_nil))))).de))) (dss_one (ds_ret (de_join de_str (df_lc g (dlc (di_seq (de_var 1)) [("_law_words_here", 6)] rfl (fun s H C cl fp => (dg_name g.blk.nd 6)) (fun s H C cl fp => dts_nil) (fun s H C cl fp => (de_add (de_join de_str (de_var 6)) de_str)) (by simp))).de))))), fun c n ds P h => pl__law_page c n ds P h⟩, fx.m__law_page, F.kp, F.bindsN fun _ _ _ _ _ _ us hl => match us, hl with | [_], _ => rfl⟩
theorem sc_Record_observers : FnScope ["self"] ["self"] (defScope (inn 22 1)) := ⟨rfl, rfl, rfl, by decide +kernel, rfl, by decide +kernel, by decide +kernel⟩
theorem c_prop_observers (fx : Fx K mg) : GProp P w K mg base (He.ga K "Record") "observers" "own_observers" 1 := by
  obtain ⟨fd, F⟩ := fx.d_Record_observers
  exact gprop_of (k := 0) fx.pr_observers F sc_Record_observers rfl rfl fx.cls_Record fx.no_Record_own_observers (F.bindsN fun _ _ _ _ _ _ us hl => match us, hl with | [_], _ => rfl)
theorem sc_Record_things : FnScope ["self"] ["self"] (defScope (inn 22 2)) := ⟨rfl, rfl, rfl, by decide +kernel, rfl, by decide +kernel, by decide +kernel⟩
theorem c_prop_things (fx : Fx K mg) : GProp P w K mg base (He.ga K "Record") "things" "own_things" 1 := by
  obtain ⟨fd, F⟩ := fx.d_Record_things
  exact gprop_of (k := 0) fx.pr_things F sc_Record_things rfl rfl fx.cls_Record fx.no_Record_own_things (F.bindsN fun _ _ _ _ _ _ us hl => match us, hl with | [_], _ => rfl)
theorem sc_Record_reports : FnScope ["self"] ["self"] (defScope (inn 22 3)) := ⟨rfl, rfl, rfl, by decide +kernel, rfl, by decide +kernel, by decide +kernel⟩
theorem c_prop_reports (fx : Fx K mg) : GProp P w K mg base (He.ga K "Record") "reports" "own_reports" 1 := by
  obtain ⟨fd, F⟩ := fx.d_Record_reports
  exact gprop_of (k := 0) fx.pr_reports F sc_Record_reports rfl rfl fx.cls_Record fx.no_Record_own_reports (F.bindsN fun _ _ _ _ _ _ us hl => match us, hl with | [_], _ => rfl)
theorem sc_Record___eq__ : FnScope ["self", "other"] ["self", "other"] (defScope (inn 22 5)) := ⟨rfl, rfl, rfl, by decide +kernel, rfl, by decide +kernel, by decide +kernel⟩
theorem len_Record___eq__ {K : PySem.W.Frag} : ∀ c n ds P, cf_eq K c n ds P → ds.length = 2 := by
  intro c n ds P h
  unfold cf_eq at h
  split at h
  · rfl
  · exact h.elim
theorem c_eq (fx : Fx K mg) : GEq P w K mg base (He.ga K "Record") 1 (cf_eq K) := by
  obtain ⟨fd, F⟩ := fx.d_Record___eq__
  exact ⟨_, fd, ["self", "other"], fx.eq_Record, conO_of (k := 0) F sc_Record___eq__ len_Record___eq__ fun cdv A outer s H E g => ⟨w_Record___eq__ K, (dss_cons (ds_if (DW.dt (dw_or (dt_not (dt_val (de_isx fx.g_isinstance (da_cons (de_var 1) (da_cons (de_gcls fx.m_Record) da_nil))))) (dw_or1 (dt_ne g (de_fld (de_var 0)) (de_fld (de_var 1)))))) (dss_one (ds_ret de_bl)) dss_nil) (dss_one (ds_ret (de_and (de_eq g (de_fld (de_var 0)) (de_fld (de_var 1))) (de_one (de_eq g (de_fld (de_var 0)) (de_fld (de_var 1)))))))), fun c n ds P h => pl_Record___eq__ fx.kr c n ds P h⟩, F.bindsN fun _ _ _ _ _ _ us hl => match us, hl with | [_, _], _ => rfl⟩
theorem sc_are_names : FnScope ["value", "least", "most", "index", "name"] ["value", "least", "most"] (defScope (top 18)) := ⟨rfl, rfl, rfl, by decide +kernel, rfl, by decide +kernel, by decide +kernel⟩
theorem len_are_names {K : PySem.W.Frag} : ∀ c n ds P, cf_are_names K c n ds P → ds.length = 3 := by
  intro c n ds P h
  unfold cf_are_names at h
  split at h
  · rfl
  · exact h.elim
theorem c_are_names (fx : Fx K mg) : GFnO P w K mg base "are_names" 2 (cf_are_names K) := by
  obtain ⟨fd, F⟩ := fx.d_are_names
  exact ⟨_, fd, ["value", "least", "most"], conO_of (k := 1) F sc_are_names len_are_names fun cdv A outer s H E g => ⟨w_are_names K, (dss_cons (ds_if (DW.dt (dw_or (dt_not (dt_val (de_isiT fx.g_isinstance (de_var 0) (da_cons (de_gty fx.g_list (by decide +kernel)) (da_cons (de_gty fx.g_tuple (by decide +kernel)) da_nil))))) (dw_or1 (dt_not (dt_lele (de_var 1) (de_len fx.g_len (de_var 0)) (de_var 2)))))) (dss_one (ds_ret de_bl)) dss_nil) (dss_one (ds_ret (de_all g fx.g_all (df_lc g (dlc (di_enum fx.g_enumerate (da_cons (de_var 0) da_nil)) [("index", 3), ("name", 4)] rfl (fun s H C cl fp => (dg_tup g.blk.calm (dgs_cons (dg_name g.blk.nd 3) (dgs_cons (dg_name g.blk.nd 4) dgs_nil)))) (fun s H C cl fp => dts_nil) (fun s H C cl fp => (de_and (de_callO g.blk (c_is_name fx) (da_cons (de_var 4) da_nil)) (de_one (de_notin g.blk (de_var 4) (de_slice (de_var 0) do_none (do_some (de_var 3))))))) (by simp))).de)))), fun c n ds P h => pl_are_names c n ds P h⟩, fx.m_are_names, F.kp, F.bindsN fun _ _ _ _ _ _ us hl => match us, hl with | [_, _, _], _ => rfl⟩
theorem sc_is_plain : FnScope ["things", "value", "one", "other", "answer"] ["things", "value"] (defScope (top 20)) := ⟨rfl, rfl, rfl, by decide +kernel, rfl, by decide +kernel, by decide +kernel⟩
theorem len_is_plain {K : PySem.W.Frag} : ∀ c n ds P, cf_is_plain K c n ds P → ds.length = 2 := by
  intro c n ds P h
  unfold cf_is_plain at h
  split at h
  · rfl
  · exact h.elim
theorem c_is_plain (fx : Fx K mg) : GFnO P w K mg base "is_plain" 2 (cf_is_plain K) := by
  obtain ⟨fd, F⟩ := fx.d_is_plain
  exact ⟨_, fd, ["things", "value"], conO_of (k := 1) F sc_is_plain len_is_plain fun cdv A outer s H E g => ⟨w_is_plain K, (dss_cons (ds_if (DW.dt (dw_or (dt_not (dt_val (de_isx fx.g_isinstance (da_cons (de_var 1) (da_cons (de_gty fx.g_tuple (by decide +kernel)) da_nil))))) (dw_or1 (dt_ne g (de_len fx.g_len (de_var 1)) de_int)))) (dss_one (ds_ret de_bl)) dss_nil) (dss_cons (ds_asg (de_var 1) (dg_seq g.calm (dgs_cons (dg_name g.nd 2) (dgs_cons (dg_name g.nd 3) (dgs_cons (dg_name g.nd 4) dgs_nil))))) (dss_cons (ds_if (DW.dt (dw_or (dt_not (dt_val (de_callO g (c_is_one_of fx) (da_cons (de_var 2) (da_cons (de_var 0) da_nil))))) (dw_or1 (dt_not (dt_val (de_callO g (c_is_one_of fx) (da_cons (de_var 3) (da_cons (de_var 0) da_nil)))))))) (dss_one (ds_ret de_bl)) dss_nil) (dss_one (ds_ret (de_and (de_ne g (de_var 2) (de_var 3)) (de_one (de_callO g (c_is_one_of fx) (da_cons (de_var 4) (da_cons (de_gk fx.m_ANSWERS fx.r_ANSWERS) da_nil)))))))))), fun c n ds P h => pl_is_plain c n ds P h⟩, fx.m_is_plain, F.kp, F.bindsN fun _ _ _ _ _ _ us hl => match us, hl with | [_, _], _ => rfl⟩
theorem sc_is_report : FnScope ["observers", "things", "value"] ["observers", "things", "value"] (defScope (top 21)) := ⟨rfl, rfl, rfl, by decide +kernel, rfl, by decide +kernel, by decide +kernel⟩
theorem len_is_report {K : PySem.W.Frag} : ∀ c n ds P, cf_is_report K c n ds P → ds.length = 3 := by
  intro c n ds P h
  unfold cf_is_report at h
  split at h
  · rfl
  · exact h.elim
theorem c_is_report (fx : Fx K mg) : GFnO P w K mg base "is_report" 3 (cf_is_report K) := by
  obtain ⟨fd, F⟩ := fx.d_is_report
  exact ⟨_, fd, ["observers", "things", "value"], conO_of (k := 2) F sc_is_report len_is_report fun cdv A outer s H E g => ⟨w_is_report K, (dss_cons (ds_if (DW.dt (dw_or (dt_not (dt_val (de_isx fx.g_isinstance (da_cons (de_var 2) (da_cons (de_gty fx.g_tuple (by decide +kernel)) da_nil))))) (dw_or1 (dt_ne g (de_len fx.g_len (de_var 2)) de_int)))) (dss_one (ds_ret de_bl)) dss_nil) (dss_one (ds_ret (de_and (de_callO g (c_is_one_of fx) (da_cons (de_ix g (de_var 2) de_int) (da_cons (de_var 0) da_nil))) (de_one (de_callO g (c_is_plain fx) (da_cons (de_var 1) (da_cons (de_slice (de_var 2) (do_some de_int) do_none) da_nil)))))))), fun c n ds P h => pl_is_report c n ds P h⟩, fx.m_is_report, F.kp, F.bindsN fun _ _ _ _ _ _ us hl => match us, hl with | [_, _, _], _ => rfl⟩
theorem sc_record_text : FnScope ["record", "lines", "observer", "one", "other", "answer", "words"] ["record"] (defScope (top 27)) := ⟨rfl, rfl, rfl, by decide +kernel, rfl, by decide +kernel, by decide +kernel⟩
theorem len_record_text {K : PySem.W.Frag} : ∀ c n ds P, cf_record_text K c n ds P → ds.length = 1 := by
  intro c n ds P h
  unfold cf_record_text at h
  split at h
  · rfl
  · exact h.elim
theorem c_record_text (fx : Fx K mg) : GFnO P w K mg base "record_text" 3 (cf_record_text K) := by
  obtain ⟨fd, F⟩ := fx.d_record_text
  exact ⟨_, fd, ["record"], conO_of (k := 2) F sc_record_text len_record_text fun cdv A outer s H E g => ⟨w_record_text K, (dss_cons (ds_if (dt_not (dt_val (de_isx fx.g_isinstance (da_cons (de_var 0) (da_cons (de_gcls fx.m_Record) da_nil))))) (dss_one (ds_raise0 g PySem.F.excBase_ValueError fx.x_BadRecord fx.m_BadRecord fx.k_BadRecord fx.s_BadRecord fx.t_BadRecord)) dss_nil) (dss_cons (ds_set g 1 (df_lst (da_cons (df_lst (da_cons de_str (da_star (de_prop g fx.cls_Record (c_prop_observers fx) (de_var 0)) da_nil))).de (da_cons (df_lst (da_cons de_str (da_star (de_prop g fx.cls_Record (c_prop_things fx) (de_var 0)) da_nil))).de da_nil))).de) (dss_cons (ds_set g 1 (de_add (de_var 1) (df_lc g (dlc (di_seq (de_prop g fx.cls_Record (c_prop_reports fx) (de_var 0))) [("observer", 2), ("one", 3), ("other", 4), ("answer", 5)] rfl (fun s H C cl fp => (dg_tup g.blk.calm (dgs_cons (dg_name g.blk.nd 2) (dgs_cons (dg_name g.blk.nd 3) (dgs_cons (dg_name g.blk.nd 4) (dgs_cons (dg_name g.blk.nd 5) dgs_nil)))))) (fun s H C cl fp => dts_nil) (fun s H C cl fp => (df_lst (da_cons (de_var 2) (da_cons (de_var 3) (da_cons (de_var 5) (da_cons (de_var 4) da_nil))))).de) (by simp))).de)) (dss_one (ds_ret (de_join de_str (df_lc g (dlc (di_seq (de_var 1)) [("words", 6)] rfl (fun s H C cl fp => (dg_name g.blk.nd 6)) (fun s H C cl fp => dts_nil) (fun s H C cl fp => (de_add (de_join de_str (de_var 6)) de_str)) (by simp))).de)))))), fun c n ds P h => pl_record_text fx.kr c n ds P h⟩, fx.m_record_text, F.kp, F.bindsN fun _ _ _ _ _ _ us hl => match us, hl with | [_], _ => rfl⟩
def gf_record {α : Type} (us ws : List α) : List α := match ws with | [y0] => [y0] | _ => us
theorem gfr_record {vs zs : List V} {us ws : List Value} (h1 : Vals vs us) (h3 : Vals zs ws) : Vals (gf_record vs zs) (gf_record us ws) := by
  unfold gf_record
  cases h3 with
  | nil => exact h1
  | cons hy0 h3 =>
    cases h3 with
    | cons _ _ => exact h1
    | nil => exact .cons hy0 (.nil)
theorem c_kw_record_text_record (fx : Fx K mg) : GFnK P w K mg base "record_text" 3 ["record"] pm_record (cf_record_text K) := by
  obtain ⟨fd, F⟩ := fx.d_record_text
  refine ⟨_, fd, ["record"], _, _, conO_of (k := 2) F sc_record_text len_record_text fun cdv A outer s H E g => ⟨w_record_text K, (dss_cons (ds_if (dt_not (dt_val (de_isx fx.g_isinstance (da_cons (de_var 0) (da_cons (de_gcls fx.m_Record) da_nil))))) (dss_one (ds_raise0 g PySem.F.excBase_ValueError fx.x_BadRecord fx.m_BadRecord fx.k_BadRecord fx.s_BadRecord fx.t_BadRecord)) dss_nil) (dss_cons (ds_set g 1 (df_lst (da_cons (df_lst (da_cons de_str (da_star (de_prop g fx.cls_Record (c_prop_observers fx) (de_var 0)) da_nil))).de (da_cons (df_lst (da_cons de_str (da_star (de_prop g fx.cls_Record (c_prop_things fx) (de_var 0)) da_nil))).de da_nil))).de) (dss_cons (ds_set g 1 (de_add (de_var 1) (df_lc g (dlc (di_seq (de_prop g fx.cls_Record (c_prop_reports fx) (de_var 0))) [("observer", 2), ("one", 3), ("other", 4), ("answer", 5)] rfl (fun s H C cl fp => (dg_tup g.blk.calm (dgs_cons (dg_name g.blk.nd 2) (dgs_cons (dg_name g.blk.nd 3) (dgs_cons (dg_name g.blk.nd 4) (dgs_cons (dg_name g.blk.nd 5) dgs_nil)))))) (fun s H C cl fp => dts_nil) (fun s H C cl fp => (df_lst (da_cons (de_var 2) (da_cons (de_var 3) (da_cons (de_var 5) (da_cons (de_var 4) da_nil))))).de) (by simp))).de)) (dss_one (ds_ret (de_join de_str (df_lc g (dlc (di_seq (de_var 1)) [("words", 6)] rfl (fun s H C cl fp => (dg_name g.blk.nd 6)) (fun s H C cl fp => dts_nil) (fun s H C cl fp => (de_add (de_join de_str (de_var 6)) de_str)) (by simp))).de)))))), fun c n ds P h => pl_record_text fx.kr c n ds P h⟩, fx.m_record_text, F.kp, kbindsN F 0 ["record"] (fun us ws => gf_record us ws) (fun h1 h3 => gfr_record h1 h3) (fun kV doc pm an cdv ct us ws l1 l2 => match us, ws, l1, l2 with | [], [_], _, _ => rfl), fun zs I ds hr hl => ?_⟩
  match ds, hl with
  | [dy0], _ =>
    cases hr with
    | cons hy0 hr =>
    cases hr
    exact .cons hy0 (.nil)
theorem sc_names_in : FnScope ["line", "at", "head", "least", "most", "word", "names"] ["line", "at"] (defScope (top 28)) := ⟨rfl, rfl, rfl, by decide +kernel, rfl, by decide +kernel, by decide +kernel⟩
theorem len_names_in {K : PySem.W.Frag} : ∀ c n ds P, cf_names_in K c n ds P → ds.length = 2 := by
  intro c n ds P h
  unfold cf_names_in at h
  split at h
  · rfl
  · exact h.elim
theorem c_names_in (fx : Fx K mg) : GFnO P w K mg base "names_in" 3 (cf_names_in K) := by
  obtain ⟨fd, F⟩ := fx.d_names_in
  exact ⟨_, fd, ["line", "at"], conO_of (k := 2) F sc_names_in len_names_in fun cdv A outer s H E g => ⟨w_names_in K, (dss_cons (ds_asg (de_ix g (de_gk fx.m_HEADS fx.r_HEADS) (de_var 1)) (dg_seq g.calm (dgs_cons (dg_name g.nd 2) (dgs_cons (dg_name g.nd 3) (dgs_cons (dg_name g.nd 4) dgs_nil))))) (dss_cons (ds_star 1 g.calm (DF.de (df_split (de_var 0) de_str)) (dgs_cons (dg_name g.nd 5) (dgs_consS (dg_name g.nd 6) dgs_nil))) (dss_cons (ds_if (DW.dt (dw_or (dt_ne g (de_var 5) (de_var 2)) (dw_or (dt_not (dt_val (de_callO g (c_are_names fx) (da_cons (de_var 6) (da_cons (de_var 3) (da_cons (de_var 4) da_nil)))))) (dw_or1 (dt_ne g (de_var 6) (DF.de (df_sorted fx.g_sorted (de_var 6)))))))) (dss_one (ds_raise1 g fx.o_BadText fx.i_BadText (c_init_BadText fx) fx.m_BadText (de_var 1))) dss_nil) (dss_one (ds_ret (de_var 6)))))), fun c n ds P h => pl_names_in c n ds P h⟩, fx.m_names_in, F.kp, F.bindsN fun _ _ _ _ _ _ us hl => match us, hl with | [_, _], _ => rfl⟩
theorem sc__law_word : FnScope ["_law_state", "_law_some", "_law_way", "_law_letters", "_law_k"] ["_law_state"] (defScope (top 35)) := ⟨rfl, rfl, rfl, by decide +kernel, rfl, by decide +kernel, by decide +kernel⟩
theorem len__law_word {K : PySem.W.Frag} : ∀ c n ds P, cf__law_word K c n ds P → ds.length = 1 := by
  intro c n ds P h
  unfold cf__law_word at h
  split at h
  · rfl
  · exact h.elim
theorem c__law_word (fx : Fx K mg) : GFnO P w K mg base "_law_word" 4 (cf__law_word K) := by
  obtain ⟨fd, F⟩ := fx.d__law_word
  exact ⟨_, fd, ["_law_state"], conO_of (k := 3) F sc__law_word len__law_word fun cdv A outer s H E g => ⟨w__law_word K, (dss_cons (ds_set g 1 (de_slice (DF.de (df_split de_str de_str)) (do_some de_int) do_none)) (dss_cons (ds_set g 2 (de_callO g (c__law_take fx) (da_cons (de_var 0) (da_cons de_int da_nil)))) (dss_cons (ds_if (dt_lt g (de_var 2) (de_len fx.g_len (de_var 1))) (dss_one (ds_ret (de_ix g (de_var 1) (de_var 2)))) dss_nil) (dss_cons (ds_set g 3 de_str) (dss_one (ds_ret (de_join de_str (df_lc g (dlc (di_range1 fx.g_range (da_cons (de_callO g (c__law_pick fx) (da_cons (de_var 0) (da_cons (df_lst (da_cons de_int (da_cons de_int (da_cons de_int (da_cons de_int (da_cons de_int da_nil)))))).de da_nil))) da_nil)) [("_law_k", 4)] rfl (fun s H C cl fp => (dg_name g.blk.nd 4)) (fun s H C cl fp => dts_nil) (fun s H C cl fp => (de_ix g.blk (de_var 3) (de_callO g.blk (c__law_take fx) (da_cons (de_var 0) (da_cons de_int da_nil))))) (by simp))).de))))))), fun c n ds P h => pl__law_word c n ds P h⟩, fx.m__law_word, F.kp, F.bindsN fun _ _ _ _ _ _ us hl => match us, hl with | [_], _ => rfl⟩
theorem sc__law_report : FnScope ["_law_state", "_law_crew", "_law_goods", "_law_near", "_law_far"] ["_law_state", "_law_crew", "_law_goods"] (defScope (top 37)) := ⟨rfl, rfl, rfl, by decide +kernel, rfl, by decide +kernel, by decide +kernel⟩
theorem len__law_report {K : PySem.W.Frag} : ∀ c n ds P, cf__law_report K c n ds P → ds.length = 3 := by
  intro c n ds P h
  unfold cf__law_report at h
  split at h
  · rfl
  · exact h.elim
theorem c__law_report (fx : Fx K mg) : GFnO P w K mg base "_law_report" 4 (cf__law_report K) := by
  obtain ⟨fd, F⟩ := fx.d__law_report
  exact ⟨_, fd, ["_law_state", "_law_crew", "_law_goods"], conO_of (k := 3) F sc__law_report len__law_report fun cdv A outer s H E g => ⟨w__law_report K, (dss_cons (ds_set g 3 (de_callO g (c__law_take fx) (da_cons (de_var 0) (da_cons (de_len fx.g_len (de_var 2)) da_nil)))) (dss_cons (ds_set g 4 (de_mod (de_add (de_add (de_var 3) de_int) (de_callO g (c__law_take fx) (da_cons (de_var 0) (da_cons (de_sub (de_len fx.g_len (de_var 2)) de_int) da_nil)))) (de_len fx.g_len (de_var 2)))) (dss_one (ds_ret (de_tup (da_cons (de_callO g (c__law_pick fx) (da_cons (de_var 0) (da_cons (de_var 1) da_nil))) (da_cons (de_ix g (de_var 2) (de_var 3)) (da_cons (de_ix g (de_var 2) (de_var 4)) (da_cons (de_callO g (c__law_pick fx) (da_cons (de_var 0) (da_cons (df_lst (da_cons de_str (da_cons de_str (da_cons de_str da_nil)))).de da_nil))) da_nil))))))))), fun c n ds P h => pl__law_report c n ds P h⟩, fx.m__law_report, F.kp, F.bindsN fun _ _ _ _ _ _ us hl => match us, hl with | [_, _, _], _ => rfl⟩
theorem sc_Record___init__ : FnScope ["self", "observers", "things", "reports", "index", "report"] ["self", "observers", "things", "reports"] (defScope (inn 22 0)) := ⟨rfl, rfl, rfl, by decide +kernel, rfl, by decide +kernel, by decide +kernel⟩
theorem len_Record___init__ {K : PySem.W.Frag} : ∀ c n ds P, cf_Record K c n ds P → ds.length + 1 = 4 := by
  intro c n ds P h
  unfold cf_Record at h
  split at h
  · rfl
  · exact h.elim
theorem o_Record___init__ (fx : Fx K mg) {fd : FuncData} (F : FunD K "__init__" "Record.__init__" (defArgs (inn 22 0)) (defBody (inn 22 0)) (defScope (inn 22 0)) [.ref (He.dflAt ("Record", some "__init__") 0 K)] [] (He.ma K (He.ga K "Record") "__init__") fd) : FnOk P w K mg base (L2.CX P w) 4 (He.ma K (He.ga K "Record") "__init__") fd ["self", "observers", "things", "reports"] (spMk K (He.ga K "Record") (cf_Record K)) :=
  mk_of (k := 3) F sc_Record___init__ len_Record___init__ fun cdv A outer s H E g => ⟨w_Record___init__ K, (dmk_pre (ds_if (DW.dt (dw_or (dt_not (dt_val (de_callO g (c_are_names fx) (da_cons (de_var 1) (da_cons de_int (da_cons (de_gint fx.v_MOST_OBSERVERS) da_nil)))))) (dw_or1 (dt_not (dt_val (de_callO g (c_are_names fx) (da_cons (de_var 2) (da_cons (de_gint fx.v_LEAST_THINGS) (da_cons (de_gint fx.v_MOST_THINGS) da_nil))))))))) (dss_one (ds_raise0 g PySem.F.excBase_ValueError fx.x_BadRecord fx.m_BadRecord fx.k_BadRecord fx.s_BadRecord fx.t_BadRecord)) dss_nil) (dmk_pre (ds_if (DW.dt (dw_or (dt_not (dt_val (de_isiT fx.g_isinstance (de_var 3) (da_cons (de_gty fx.g_list (by decide +kernel)) (da_cons (de_gty fx.g_tuple (by decide +kernel)) da_nil))))) (dw_or1 (dt_gt g (de_len fx.g_len (de_var 3)) (de_gint fx.v_MOST_REPORTS))))) (dss_one (ds_raise0 g PySem.F.excBase_ValueError fx.x_BadRecord fx.m_BadRecord fx.k_BadRecord fx.s_BadRecord fx.t_BadRecord)) dss_nil) (dmk_pre (ds_for g (di_enum fx.g_enumerate (da_cons (de_var 3) da_nil)) (dg_tup g.calm (dgs_cons (dg_name g.nd 4) (dgs_cons (dg_name g.nd 5) dgs_nil))) (dss_one (ds_if (dt_not (dt_val (de_callO g (c_is_report fx) (da_cons (de_var 1) (da_cons (de_var 2) (da_cons (de_var 5) da_nil)))))) (dss_one (ds_raise1 g fx.o_BadReport fx.i_BadReport (c_init_BadReport fx) fx.m_BadReport (de_var 4))) dss_nil))) (DSt.mk (dst_cons (de_tuple fx.g_tuple (DF.de (df_sorted fx.g_sorted (de_var 1)))) (dst_cons (de_tuple fx.g_tuple (DF.de (df_sorted fx.g_sorted (de_var 2)))) (dst_cons (de_tuple fx.g_tuple (de_var 3)) dst_nil))))))), fun a c n ds P h => pl_Record___init__ fx.kr a c n ds P h⟩
theorem c_mk_Record (fx : Fx K mg) : GMk P w K mg base "Record" 4 (cf_Record K) := by
  obtain ⟨fd, F⟩ := fx.d_Record___init__
  obtain ⟨ds, hv, hb⟩ := FunD.binds1 (ps := ["self", "observers", "things", "reports"]) F 4 1 (by simp) rfl (fun T kV doc pm an cdv ct us its l1 l2 => match us, its, l1, l2 with | [_, _, _, _], [_], _, _ => ⟨_, rfl, rfl⟩)
  cases hv
  exact ⟨_, fd, ["self", "observers", "things", "reports"], o_Record___init__ fx F, fx.mk_Record, fx.m_Record, hb⟩
theorem c_mkd_Record (fx : Fx K mg) : GMkD P w K mg base "Record" 4 [.tup []] (cf_Record K) := by
  obtain ⟨fd, F⟩ := fx.d_Record___init__
  obtain ⟨ds, hv, hb⟩ := FunD.binds1 (ps := ["self", "observers", "things", "reports"]) F 3 0 (by simp) rfl (fun T kV doc pm an cdv ct us its l1 l2 => match us, its, l1, l2 with | [_, _, _], [_], _, _ => ⟨_, rfl, rfl⟩)
  exact ⟨_, fd, ["self", "observers", "things", "reports"], _, ds, o_Record___init__ fx F, fx.mk_Record, fx.m_Record, hb, hv, fx.df_Record⟩
theorem sc__law_words : FnScope ["_law_state", "_law_many", "_law_found", "_law_spare", "_law_k", "_law_word_here", "_law_sign", "_law_extra"] ["_law_state", "_law_many"] (defScope (top 36)) := ⟨rfl, rfl, rfl, by decide +kernel, rfl, by decide +kernel, by decide +kernel⟩
theorem len__law_words {K : PySem.W.Frag} : ∀ c n ds P, cf__law_words K c n ds P → ds.length = 2 := by
  intro c n ds P h
  unfold cf__law_words at h
  split at h
  · rfl
  · exact h.elim
theorem c__law_words (fx : Fx K mg) : GFnO P w K mg base "_law_words" 5 (cf__law_words K) := by
  obtain ⟨fd, F⟩ := fx.d__law_words
  exact ⟨_, fd, ["_law_state", "_law_many"], conO_of (k := 4) F sc__law_words len__law_words fun cdv A outer s H E g => ⟨w__law_words K, (dss_cons (ds_par2T g 2 3 (dx_o (df_lst da_nil)) (dx_v (df_lc g (dlc (di_seq de_str) [("_law_sign", 6)] rfl (fun s H C cl fp => (dg_name g.blk.nd 6)) (fun s H C cl fp => dts_nil) (fun s H C cl fp => (de_add de_str (de_var 6))) (by simp))).de)) (dss_cons (ds_for g (di_range1 fx.g_range (da_cons (de_var 1) da_nil)) (dg_name g.nd 4) (dss_cons (ds_set g 5 (de_callO g (c__law_word fx) (da_cons (de_var 0) da_nil))) (dss_cons (ds_if (dt_bor (dt_in g (de_var 5) (de_var 2))) (dss_one (ds_set g 5 (de_bor (de_ix g (df_lc g (dlc (di_seq (de_var 3)) [("_law_extra", 7)] rfl (fun s H C cl fp => (dg_name g.blk.nd 7)) (fun s H C cl fp => (dts_one (dt_notin g.blk (de_var 7) (de_var 2)))) (fun s H C cl fp => (de_var 7)) (by simp))).de de_int)))) dss_nil) (dss_one (ds_app 2 (de_var 5)))))) (dss_one (ds_ret (de_var 2))))), fun c n ds P h => pl__law_words c n ds P h⟩, fx.m__law_words, F.kp, F.bindsN fun _ _ _ _ _ _ us hl => match us, hl with | [_, _], _ => rfl⟩
theorem sc_read_record : FnScope ["text", "lines", "rest", "names", "reports", "at", "line", "words", "observer", "one", "answer", "other"] ["text"] (defScope (top 29)) := ⟨rfl, rfl, rfl, by decide +kernel, rfl, by decide +kernel, by decide +kernel⟩
theorem len_read_record {K : PySem.W.Frag} : ∀ c n ds P, cf_read_record K c n ds P → ds.length = 1 := by
  intro c n ds P h
  unfold cf_read_record at h
  split at h
  · rfl
  · exact h.elim
theorem c_read_record (fx : Fx K mg) : GFnO P w K mg base "read_record" 6 (cf_read_record K) := by
  obtain ⟨fd, F⟩ := fx.d_read_record
  exact ⟨_, fd, ["text"], conO_of (k := 5) F sc_read_record len_read_record fun cdv A outer s H E g => ⟨w_read_record K, (dss_cons (ds_if (dt_not (dt_val (de_isx fx.g_isinstance (da_cons (de_var 0) (da_cons (de_gty fx.g_str (by decide +kernel)) da_nil))))) (dss_one (ds_raise1 g fx.o_BadText fx.i_BadText (c_init_BadText fx) fx.m_BadText de_int)) dss_nil) (dss_cons (ds_star 0 g.calm (DF.de (df_split (de_var 0) de_str)) (dgs_consS (dg_name g.nd 1) (dgs_cons (dg_name g.nd 2) dgs_nil))) (dss_cons (ds_par2 g 3 4 (dx_o (df_lst da_nil)) (dx_o (df_lst da_nil))) (dss_cons (ds_for g (di_enum fx.g_enumerate (da_cons (de_var 1) da_nil)) (dg_tup g.calm (dgs_cons (dg_name g.nd 5) (dgs_cons (dg_name g.nd 6) dgs_nil))) (dss_cons (ds_if (dt_lt g (de_var 5) (de_len fx.g_len (de_gk fx.m_HEADS fx.r_HEADS))) (dss_cons (ds_app 3 (de_callO g (c_names_in fx) (da_cons (de_var 6) (da_cons (de_var 5) da_nil)))) (dss_one ds_continue)) dss_nil) (dss_cons (ds_set g 7 (DF.de (df_split (de_var 6) de_str))) (dss_cons (ds_if (dt_bor (DW.dt (dw_or (dt_ne g (de_len fx.g_len (de_var 7)) de_int) (dw_or1 (dt_eq g (de_len fx.g_len (de_var 4)) (de_gint fx.v_MOST_REPORTS)))))) (dss_one (ds_raise1 g fx.o_BadText fx.i_BadText (c_init_BadText fx) fx.m_BadText (de_var 5))) dss_nil) (dss_cons (ds_asg (de_var 7) (dg_seq g.calm (dgs_cons (dg_name g.nd 8) (dgs_cons (dg_name g.nd 9) (dgs_cons (dg_name g.nd 10) (dgs_cons (dg_name g.nd 11) dgs_nil)))))) (dss_cons (ds_if (dt_bor (dt_not (dt_val (de_callO g (c_is_report fx) (da_cons (de_ix g (de_var 3) de_int) (da_cons (de_ix g (de_var 3) de_int) (da_cons (de_tup (da_cons (de_var 8) (da_cons (de_var 9) (da_cons (de_var 11) (da_cons (de_var 10) da_nil))))) da_nil))))))) (dss_one (ds_raise1 g fx.o_BadText fx.i_BadText (c_init_BadText fx) fx.m_BadText (de_var 5))) dss_nil) (dss_one (ds_app 4 (de_tup (da_cons (de_var 8) (da_cons (de_var 9) (da_cons (de_var 11) (da_cons (de_var 10) da_nil))))))))))))) (dss_cons (ds_if (DW.dt (dw_or (dt_ne g (de_var 2) de_str) (dw_or1 (dt_lt g (de_len fx.g_len (de_var 1)) (de_len fx.g_len (de_gk fx.m_HEADS fx.r_HEADS)))))) (dss_one (ds_raise1 g fx.o_BadText fx.i_BadText (c_init_BadText fx) fx.m_BadText (de_len fx.g_len (de_var 1)))) dss_nil) (dss_one (ds_ret (de_make g (c_mk_Record fx) (da_cons (de_ix g (de_var 3) de_int) (da_cons (de_ix g (de_var 3) de_int) (da_cons (de_var 4) da_nil))))))))))), fun c n ds P h => pl_read_record c n ds P h⟩, fx.m_read_record, F.kp, F.bindsN fun _ _ _ _ _ _ us hl => match us, hl with | [_], _ => rfl⟩
def gf_text {α : Type} (us ws : List α) : List α := match ws with | [y0] => [y0] | _ => us
theorem gfr_text {vs zs : List V} {us ws : List Value} (h1 : Vals vs us) (h3 : Vals zs ws) : Vals (gf_text vs zs) (gf_text us ws) := by
  unfold gf_text
  cases h3 with
  | nil => exact h1
  | cons hy0 h3 =>
    cases h3 with
    | cons _ _ => exact h1
    | nil => exact .cons hy0 (.nil)
theorem c_kw_read_record_text (fx : Fx K mg) : GFnK P w K mg base "read_record" 6 ["text"] pm_text (cf_read_record K) := by
  obtain ⟨fd, F⟩ := fx.d_read_record
  refine ⟨_, fd, ["text"], _, _, conO_of (k := 5) F sc_read_record len_read_record fun cdv A outer s H E g => ⟨w_read_record K, (dss_cons (ds_if (dt_not (dt_val (de_isx fx.g_isinstance (da_cons (de_var 0) (da_cons (de_gty fx.g_str (by decide +kernel)) da_nil))))) (dss_one (ds_raise1 g fx.o_BadText fx.i_BadText (c_init_BadText fx) fx.m_BadText de_int)) dss_nil) (dss_cons (ds_star 0 g.calm (DF.de (df_split (de_var 0) de_str)) (dgs_consS (dg_name g.nd 1) (dgs_cons (dg_name g.nd 2) dgs_nil))) (dss_cons (ds_par2 g 3 4 (dx_o (df_lst da_nil)) (dx_o (df_lst da_nil))) (dss_cons (ds_for g (di_enum fx.g_enumerate (da_cons (de_var 1) da_nil)) (dg_tup g.calm (dgs_cons (dg_name g.nd 5) (dgs_cons (dg_name g.nd 6) dgs_nil))) (dss_cons (ds_if (dt_lt g (de_var 5) (de_len fx.g_len (de_gk fx.m_HEADS fx.r_HEADS))) (dss_cons (ds_app 3 (de_callO g (c_names_in fx) (da_cons (de_var 6) (da_cons (de_var 5) da_nil)))) (dss_one ds_continue)) dss_nil) (dss_cons (ds_set g 7 (DF.de (df_split (de_var 6) de_str))) (dss_cons (ds_if (dt_bor (DW.dt (dw_or (dt_ne g (de_len fx.g_len (de_var 7)) de_int) (dw_or1 (dt_eq g (de_len fx.g_len (de_var 4)) (de_gint fx.v_MOST_REPORTS)))))) (dss_one (ds_raise1 g fx.o_BadText fx.i_BadText (c_init_BadText fx) fx.m_BadText (de_var 5))) dss_nil) (dss_cons (ds_asg (de_var 7) (dg_seq g.calm (dgs_cons (dg_name g.nd 8) (dgs_cons (dg_name g.nd 9) (dgs_cons (dg_name g.nd 10) (dgs_cons (dg_name g.nd 11) dgs_nil)))))) (dss_cons (ds_if (dt_bor (dt_not (dt_val (de_callO g (c_is_report fx) (da_cons (de_ix g (de_var 3) de_int) (da_cons (de_ix g (de_var 3) de_int) (da_cons (de_tup (da_cons (de_var 8) (da_cons (de_var 9) (da_cons (de_var 11) (da_cons (de_var 10) da_nil))))) da_nil))))))) (dss_one (ds_raise1 g fx.o_BadText fx.i_BadText (c_init_BadText fx) fx.m_BadText (de_var 5))) dss_nil) (dss_one (ds_app 4 (de_tup (da_cons (de_var 8) (da_cons (de_var 9) (da_cons (de_var 11) (da_cons (de_var 10) da_nil))))))))))))) (dss_cons (ds_if (DW.dt (dw_or (dt_ne g (de_var 2) de_str) (dw_or1 (dt_lt g (de_len fx.g_len (de_var 1)) (de_len fx.g_len (de_gk fx.m_HEADS fx.r_HEADS)))))) (dss_one (ds_raise1 g fx.o_BadText fx.i_BadText (c_init_BadText fx) fx.m_BadText (de_len fx.g_len (de_var 1)))) dss_nil) (dss_one (ds_ret (de_make g (c_mk_Record fx) (da_cons (de_ix g (de_var 3) de_int) (da_cons (de_ix g (de_var 3) de_int) (da_cons (de_var 4) da_nil))))))))))), fun c n ds P h => pl_read_record c n ds P h⟩, fx.m_read_record, F.kp, kbindsN F 0 ["text"] (fun us ws => gf_text us ws) (fun h1 h3 => gfr_text h1 h3) (fun kV doc pm an cdv ct us ws l1 l2 => match us, ws, l1, l2 with | [], [_], _, _ => rfl), fun zs I ds hr hl => ?_⟩
  match ds, hl with
  | [dy0], _ =>
    cases hr with
    | cons hy0 hr =>
    cases hr
    exact .cons hy0 (.nil)
theorem sc__law_model : FnScope ["_law_state", "_law_most_crew", "_law_most_goods", "_law_most_rows", "_law_crew", "_law_goods", "_law_rows", "_law_k"] ["_law_state", "_law_most_crew", "_law_most_goods", "_law_most_rows"] (defScope (top 38)) := ⟨rfl, rfl, rfl, by decide +kernel, rfl, by decide +kernel, by decide +kernel⟩
theorem len__law_model {K : PySem.W.Frag} : ∀ c n ds P, cf__law_model K c n ds P → ds.length = 4 := by
  intro c n ds P h
  unfold cf__law_model at h
  split at h
  · rfl
  · exact h.elim
theorem c__law_model (fx : Fx K mg) : GFnO P w K mg base "_law_model" 6 (cf__law_model K) := by
  obtain ⟨fd, F⟩ := fx.d__law_model
  exact ⟨_, fd, ["_law_state", "_law_most_crew", "_law_most_goods", "_law_most_rows"], conO_of (k := 5) F sc__law_model len__law_model fun cdv A outer s H E g => ⟨w__law_model K, (dss_cons (ds_set g 4 (de_callO g (c__law_words fx) (da_cons (de_var 0) (da_cons (de_add de_int (de_callO g (c__law_take fx) (da_cons (de_var 0) (da_cons (de_var 1) da_nil)))) da_nil)))) (dss_cons (ds_set g 5 (de_callO g (c__law_words fx) (da_cons (de_var 0) (da_cons (de_add de_int (de_callO g (c__law_take fx) (da_cons (de_var 0) (da_cons (de_sub (de_var 2) de_int) da_nil)))) da_nil)))) (dss_cons (ds_setLc g 6 (dlc (di_range1 fx.g_range (da_cons (de_callO g (c__law_take fx) (da_cons (de_var 0) (da_cons (de_add (de_var 3) de_int) da_nil))) da_nil)) [("_law_k", 7)] rfl (fun s H C cl fp => (dg_name g.blk.nd 7)) (fun s H C cl fp => dts_nil) (fun s H C cl fp => (de_callO g.blk (c__law_report fx) (da_cons (de_var 0) (da_cons (de_var 4) (da_cons (de_var 5) da_nil))))) (by simp)) (sw_true rfl rfl rfl (by decide +kernel))) (dss_one (ds_ret (DF.de (df_dict (dps_cons de_str (de_var 4) (dps_cons de_str (de_var 5) (dps_cons de_str (de_var 6) dps_nil)))))))))), fun c n ds P h => pl__law_model c n ds P h⟩, fx.m__law_model, F.kp, F.bindsN fun _ _ _ _ _ _ us hl => match us, hl with | [_, _, _, _], _ => rfl⟩
theorem sc__law_record : FnScope ["_law_model_here"] ["_law_model_here"] (defScope (top 39)) := ⟨rfl, rfl, rfl, by decide +kernel, rfl, by decide +kernel, by decide +kernel⟩
theorem len__law_record {K : PySem.W.Frag} : ∀ c n ds P, cf__law_record K c n ds P → ds.length = 1 := by
  intro c n ds P h
  unfold cf__law_record at h
  split at h
  · rfl
  · exact h.elim
theorem c__law_record (fx : Fx K mg) : GFnO P w K mg base "_law_record" 6 (cf__law_record K) := by
  obtain ⟨fd, F⟩ := fx.d__law_record
  exact ⟨_, fd, ["_law_model_here"], conO_of (k := 5) F sc__law_record len__law_record fun cdv A outer s H E g => ⟨w__law_record K, (dss_one (ds_ret (de_make g (c_mk_Record fx) (da_cons (de_ix g (de_var 0) de_str) (da_cons (de_ix g (de_var 0) de_str) (da_cons (de_ix g (de_var 0) de_str) da_nil)))))), fun c n ds P h => pl__law_record c n ds P h⟩, fx.m__law_record, F.kp, F.bindsN fun _ _ _ _ _ _ us hl => match us, hl with | [_], _ => rfl⟩
theorem sc_law : FnScope ["_law_script", "_law_state", "_law_turn", "_law_model_here", "_law_made", "_law_page_here", "_law_found", "_law_other"] ["_law_script"] (defScope (top 41)) := ⟨rfl, rfl, rfl, by decide +kernel, rfl, by decide +kernel, by decide +kernel⟩
theorem ok_law (fx : Fx K mg) {f : Addr} {fd : FuncData} (F : FunD K "law" "law" (defArgs (top 41)) (defBody (top 41)) (defScope (top 41)) [] [] f fd) : FnG P w K mg base 7 f fd ["_law_script"] (spLaw K) := by
  obtain ⟨f1, fd1, ps1, B, m1, k1, b1⟩ := c__law_begun (P := P) (w := w) (base := base) fx
  exact law_of (k := 6) (w2 := w_law K) F sc_law rfl (fun cdv A outer s H E g => law_body g B m1 k1 b1 (pe_var rfl (.inl rfl)) (dss_cons (ds_for g (di_range1 fx.g_range (da_cons (de_add de_int (de_min g fx.g_min (de_len fx.g_len (de_var 0)) de_int)) da_nil)) (dg_name g.nd 2) (dss_cons (ds_set g 3 (de_callO g (c__law_model fx) (da_cons (de_var 1) (da_cons de_int (da_cons de_int (da_cons (de_callO g (c__law_pick fx) (da_cons (de_var 1) (da_cons (df_lst (da_cons de_int (da_cons de_int (da_cons de_int (da_cons de_int da_nil))))).de da_nil))) da_nil)))))) (dss_cons (ds_par2T g 4 5 (dx_v (de_callO g (c__law_record fx) (da_cons (de_var 3) da_nil))) (dx_v (de_callO g (c__law_page fx) (da_cons (de_var 3) da_nil)))) (dss_cons (ds_if (dt_ne g (de_repr g fx.sm fx.g_repr (df_lst (da_cons (de_callO g (c_record_text fx) (da_cons (de_var 4) da_nil)) (da_cons (de_callK g (c_kw_record_text_record fx) (dk_cons (de_var 4) dk_nil)) da_nil))).de) (de_repr g fx.sm fx.g_repr (df_lst (da_cons (de_var 5) (da_cons (de_var 5) da_nil))).de)) (dss_one (ds_ret de_bl)) dss_nil) (dss_cons (ds_set g 6 (df_lst (da_cons (de_callO g (c_read_record fx) (da_cons (de_var 5) da_nil)) (da_cons (de_callK g (c_kw_read_record_text fx) (dk_cons (de_var 5) dk_nil)) da_nil))).de) (dss_cons (ds_if (dt_ne g (df_lc g (dlc (di_seq (de_var 6)) [("_law_other", 7)] rfl (fun s H C cl fp => (dg_name g.blk.nd 7)) (fun s H C cl fp => (dts_one (DW.dt (dw_or (dt_not (dt_val (de_isx fx.g_isinstance (da_cons (de_var 7) (da_cons (de_gcls fx.m_Record) da_nil))))) (dw_or1 (dt_neO g.blk (c_eq fx) (de_var 7) (de_var 4))))))) (fun s H C cl fp => de_int) (by simp))).de (df_lst da_nil).de) (dss_one (ds_ret de_bl)) dss_nil) (dss_one (ds_if (DW.dt (dw_or (dt_ne g (de_repr g fx.sm fx.g_repr (de_prop g fx.cls_Record (c_prop_reports fx) (de_ix g (de_var 6) de_int))) (de_repr g fx.sm fx.g_repr (de_tuple fx.g_tuple (de_ix g (de_var 3) de_str)))) (dw_or1 (dt_ne g (de_callO g (c_record_text fx) (da_cons (de_ix g (de_var 6) de_int) da_nil)) (de_var 5))))) (dss_one (ds_ret de_bl)) dss_nil)))))))) (dss_one (ds_ret de_bl)))) fun st l c ns hl => pl_law fx.kr st l c ns hl
end
def df (i : Nat) (x : Str) : He.DefD := ⟨(x, none), x, x, defArgs (top i), defBody (top i), defScope (top i), [], []⟩
def dm (i j : Nat) (x m : Str) : He.DefD := ⟨(x, some m), m, x ++ "." ++ m, defArgs (inn i j), defBody (inn i j), defScope (inn i j), [], []⟩
def dd (i j : Nat) (x m : Str) : He.DefD := ⟨(x, some m), m, x ++ "." ++ m, defArgs (inn i j), defBody (inn i j), defScope (inn i j), [.adr (He.dflAt (x, some m) 0)], []⟩
def dx (i j : Nat) (x m : Str) : DefX := ⟨fun K => prG K x m, m, x ++ "." ++ m, defArgs (inn i j), defBody (inn i j), defScope (inn i j)⟩
def fn : List He.DefD := [dm 4 0 "BadReport" "__init__", dm 7 0 "BadText" "__init__", df 17 "is_name", df 18 "are_names", df 19 "is_one_of", df 20 "is_plain", df 21 "is_report", df 27 "record_text", df 28 "names_in", df 29 "read_record", df 31 "_law_begun", df 32 "_law_mixed", df 33 "_law_take", df 34 "_law_pick", df 35 "_law_word", df 36 "_law_words", df 37 "_law_report", df 38 "_law_model", df 39 "_law_record", df 40 "_law_page", df 41 "law", dd 22 0 "Record" "__init__", dm 22 5 "Record" "__eq__"]
def px : List DefX := [dx 22 1 "Record" "observers", dx 22 2 "Record" "things", dx 22 3 "Record" "reports"]
def fa : List He.Fa := [.free "all", .free "enumerate", .free "int", .free "isinstance", .free "len", .free "list", .free "min", .free "property", .free "range", .free "repr", .free "sorted", .free "str", .free "tuple", .glo "KeenError", .glo "BadRecord", .glo "BadReport", .glo "BadText", .glo "Record", .glo "is_name", .glo "are_names", .glo "is_one_of", .glo "is_plain", .glo "is_report", .glo "record_text", .glo "names_in", .glo "read_record", .glo "_law_begun", .glo "_law_mixed", .glo "_law_take", .glo "_law_pick", .glo "_law_word", .glo "_law_words", .glo "_law_report", .glo "_law_model", .glo "_law_record", .glo "_law_page", .glo "law", .str "LETTERS" "abcdefghijklmnopqrstuvwxyz", .int "LONGEST" 8, .int "MOST_OBSERVERS" 4, .int "LEAST_THINGS" 2, .int "MOST_THINGS" 8, .int "MOST_REPORTS" 30, .glo "ANSWERS", .glo "HEADS", .exc "KeenError", .exc "BadRecord", .cls "Record", .mkr "Record", .noat "Record" "own_observers", .noat "Record" "own_things", .noat "Record" "own_reports"]
def bs : List (PySem.W.Frag → Bool) := [smB, krB, fun K => repB K 8 (.ref (He.ga K "ANSWERS")) (.tup [(.str "less"), (.str "more"), (.str "none")]), fun K => repB K 8 (.ref (He.ga K "HEADS")) (.tup [(.tup [(.str "observers"), (.int 1), (.int 4)]), (.tup [(.str "things"), (.int 2), (.int 8)])]), fun K => oexB K (He.ga K "BadReport"), fun K => initB K "BadReport", fun K => noB K (He.ga K "BadReport") "index", fun K => oexB K (He.ga K "BadText"), fun K => initB K "BadText", fun K => noB K (He.ga K "BadText") "line", fun K => ciB K (He.ga K "KeenError"), fun K => dfl0B K (He.dflAt ("Record", some "__init__") 0 K), fun K => propB K "Record" "observers", fun K => propB K "Record" "things", fun K => propB K "Record" "reports", fun K => eqcB K "Record"]
abbrev R : PySem.W.OpenRow := PySem.W.OpenLaw.row PySem.Challenge.rw_keencone_k60_texts_of_records
abbrev hk : PySem.W.Hook := hookY 5 bs fa fn px
def ob (s : PySem.W.SharedT) : AlY := obYG 5 bs fa fn px (HandSHeadRun.getT s)
theorem ob_eq (s : PySem.W.SharedT) : ob s = hk.obs s.abs := obYG_eq (HandSHeadRun.getT_eq s)
def names : List Str := [("_wall" : Str), ("KeenError" : Str), ("BadRecord" : Str), ("BadReport" : Str), ("BadIndex" : Str), ("TooMany" : Str), ("BadText" : Str), ("LETTERS" : Str), ("LONGEST" : Str), ("MOST_OBSERVERS" : Str), ("LEAST_THINGS" : Str), ("MOST_THINGS" : Str), ("MOST_REPORTS" : Str), ("ANSWERS" : Str), ("is_integer" : Str), ("is_name" : Str), ("are_names" : Str), ("is_one_of" : Str), ("is_plain" : Str), ("is_report" : Str), ("Record" : Str), ("is_index" : Str), ("joined" : Str), ("HEADS" : Str), ("record_text" : Str), ("names_in" : Str), ("read_record" : Str), ("_law_begun" : Str), ("_law_mixed" : Str), ("_law_take" : Str), ("_law_pick" : Str), ("_law_word" : Str), ("_law_words" : Str), ("_law_report" : Str), ("_law_model" : Str), ("_law_record" : Str), ("_law_page" : Str)]
theorem run (w : World) : HandSHeadRun.RunEq R (PySem.W.view R.prog [41]) hk ob 4000 names w := by
  intro os
  kernel_rfl
theorem fx_of {K : PySem.W.Frag} {h : Heap} {mg : Str → Option Value} (X : K.In h) (G : h.Ns mainGlobals mg) (c : SaysY bs fa fn px K) : Fx K mg where
  sm := smB_ok (c.at 0 rfl)
  kr := krB_ok (c.at 1 rfl)
  g_all := He.free_ok X G (c.d.fact 0 rfl)
  g_enumerate := He.free_ok X G (c.d.fact 1 rfl)
  g_int := He.free_ok X G (c.d.fact 2 rfl)
  g_isinstance := He.free_ok X G (c.d.fact 3 rfl)
  g_len := He.free_ok X G (c.d.fact 4 rfl)
  g_list := He.free_ok X G (c.d.fact 5 rfl)
  g_min := He.free_ok X G (c.d.fact 6 rfl)
  g_property := He.free_ok X G (c.d.fact 7 rfl)
  g_range := He.free_ok X G (c.d.fact 8 rfl)
  g_repr := He.free_ok X G (c.d.fact 9 rfl)
  g_sorted := He.free_ok X G (c.d.fact 10 rfl)
  g_str := He.free_ok X G (c.d.fact 11 rfl)
  g_tuple := He.free_ok X G (c.d.fact 12 rfl)
  m_KeenError := He.glo_ok X G (c.d.fact 13 rfl)
  m_BadRecord := He.glo_ok X G (c.d.fact 14 rfl)
  m_BadReport := He.glo_ok X G (c.d.fact 15 rfl)
  m_BadText := He.glo_ok X G (c.d.fact 16 rfl)
  m_Record := He.glo_ok X G (c.d.fact 17 rfl)
  m_is_name := He.glo_ok X G (c.d.fact 18 rfl)
  m_are_names := He.glo_ok X G (c.d.fact 19 rfl)
  m_is_one_of := He.glo_ok X G (c.d.fact 20 rfl)
  m_is_plain := He.glo_ok X G (c.d.fact 21 rfl)
  m_is_report := He.glo_ok X G (c.d.fact 22 rfl)
  m_record_text := He.glo_ok X G (c.d.fact 23 rfl)
  m_names_in := He.glo_ok X G (c.d.fact 24 rfl)
  m_read_record := He.glo_ok X G (c.d.fact 25 rfl)
  m__law_begun := He.glo_ok X G (c.d.fact 26 rfl)
  m__law_mixed := He.glo_ok X G (c.d.fact 27 rfl)
  m__law_take := He.glo_ok X G (c.d.fact 28 rfl)
  m__law_pick := He.glo_ok X G (c.d.fact 29 rfl)
  m__law_word := He.glo_ok X G (c.d.fact 30 rfl)
  m__law_words := He.glo_ok X G (c.d.fact 31 rfl)
  m__law_report := He.glo_ok X G (c.d.fact 32 rfl)
  m__law_model := He.glo_ok X G (c.d.fact 33 rfl)
  m__law_record := He.glo_ok X G (c.d.fact 34 rfl)
  m__law_page := He.glo_ok X G (c.d.fact 35 rfl)
  m_law := He.glo_ok X G (c.d.fact 36 rfl)
  v_LETTERS := He.str_ok X G (c.d.fact 37 rfl)
  v_LONGEST := He.int_ok X G (c.d.fact 38 rfl)
  v_MOST_OBSERVERS := He.int_ok X G (c.d.fact 39 rfl)
  v_LEAST_THINGS := He.int_ok X G (c.d.fact 40 rfl)
  v_MOST_THINGS := He.int_ok X G (c.d.fact 41 rfl)
  v_MOST_REPORTS := He.int_ok X G (c.d.fact 42 rfl)
  m_ANSWERS := He.glo_ok X G (c.d.fact 43 rfl)
  r_ANSWERS := repG_ok (c.at 2 rfl)
  m_HEADS := He.glo_ok X G (c.d.fact 44 rfl)
  r_HEADS := repG_ok (c.at 3 rfl)
  x_KeenError := (He.exc_ok (x := "KeenError") (c.d.fact 45 rfl)).1
  k_KeenError := (He.exc_ok (x := "KeenError") (c.d.fact 45 rfl)).2.1
  s_KeenError := (He.exc_ok (x := "KeenError") (c.d.fact 45 rfl)).2.2.1
  t_KeenError := (He.exc_ok (x := "KeenError") (c.d.fact 45 rfl)).2.2.2
  x_BadRecord := (He.exc_ok (x := "BadRecord") (c.d.fact 46 rfl)).1
  k_BadRecord := (He.exc_ok (x := "BadRecord") (c.d.fact 46 rfl)).2.1
  s_BadRecord := (He.exc_ok (x := "BadRecord") (c.d.fact 46 rfl)).2.2.1
  t_BadRecord := (He.exc_ok (x := "BadRecord") (c.d.fact 46 rfl)).2.2.2
  o_BadReport := oexB_ok (c.at 4 rfl)
  i_BadReport := (c.at 5 rfl)
  n_BadReport := He.eqO_ok (c.at 6 rfl)
  d_init_BadReport := (c.d.def_ 0 rfl)
  o_BadText := oexB_ok (c.at 7 rfl)
  i_BadText := (c.at 8 rfl)
  n_BadText := He.eqO_ok (c.at 9 rfl)
  d_init_BadText := (c.d.def_ 1 rfl)
  ci := (c.at 10 rfl)
  d_is_name := (c.d.def_ 2 rfl)
  d_are_names := (c.d.def_ 3 rfl)
  d_is_one_of := (c.d.def_ 4 rfl)
  d_is_plain := (c.d.def_ 5 rfl)
  d_is_report := (c.d.def_ 6 rfl)
  d_record_text := (c.d.def_ 7 rfl)
  d_names_in := (c.d.def_ 8 rfl)
  d_read_record := (c.d.def_ 9 rfl)
  d__law_begun := (c.d.def_ 10 rfl)
  d__law_mixed := (c.d.def_ 11 rfl)
  d__law_take := (c.d.def_ 12 rfl)
  d__law_pick := (c.d.def_ 13 rfl)
  d__law_word := (c.d.def_ 14 rfl)
  d__law_words := (c.d.def_ 15 rfl)
  d__law_report := (c.d.def_ 16 rfl)
  d__law_model := (c.d.def_ 17 rfl)
  d__law_record := (c.d.def_ 18 rfl)
  d__law_page := (c.d.def_ 19 rfl)
  d_law := (c.d.def_ 20 rfl)
  cls_Record := He.cls_ok (x := "Record") (c.d.fact 47 rfl)
  mk_Record := He.mkr_ok (x := "Record") (c.d.fact 48 rfl)
  d_Record___init__ := (c.d.def_ 21 rfl)
  df_Record := dfl0_ok (c.at 11 rfl)
  no_Record_own_observers := He.noat_ok (x := "Record") (c.d.fact 49 rfl)
  pr_observers := propB_ok (c.at 12 rfl)
  d_Record_observers := (c.px 0 rfl)
  no_Record_own_things := He.noat_ok (x := "Record") (c.d.fact 50 rfl)
  pr_things := propB_ok (c.at 13 rfl)
  d_Record_things := (c.px 1 rfl)
  no_Record_own_reports := He.noat_ok (x := "Record") (c.d.fact 51 rfl)
  pr_reports := propB_ok (c.at 14 rfl)
  d_Record_reports := (c.px 2 rfl)
  d_Record___eq__ := (c.d.def_ 22 rfl)
  eq_Record := eqcB_ok (c.at 15 rfl)
theorem facts {P : Program} {w : World} {K : PySem.W.Frag} {h : Heap} {mg : Str → Option Value} {f : Addr} (X : K.In h) (G : h.Ns mainGlobals mg) (hf : mg ("law" : Str) = some (.ref f)) (c : SaysY bs fa fn px K) :
    ∃ fd : FuncData, (∀ (s : Shared) (v : Value), BindsTo s fd ⟨[v], []⟩ [("_law_script", v)]) ∧ ∀ base : Heap, K.In base → base.Ns mainGlobals mg → FnG P w K mg base 7 f fd ["_law_script"] (spLaw K) := by
  have fx := fx_of X G c
  obtain ⟨fd, F⟩ := fx.d_law
  have e := hf.symm.trans fx.m_law
  cases e
  have b := FunD.bindsA (ps := ["_law_script"]) F fun _ _ _ _ _ _ us hl => match us, hl with | [_], _ => rfl
  exact ⟨fd, fun s v => b s [v] rfl, fun base _ _ => ok_law fx F⟩
end Pk

open PySem PySem.W PySem.Calls PyProof.Rows
theorem PySem.Challenge.cw_keencone_k60_texts_of_records_holds : PySem.Challenge.rw_keencone_k60_texts_of_records.Holds := by
  w_on; o_law
  refine HandSHeadRun.head_any (r := OpenLaw.row PySem.Challenge.rw_keencone_k60_texts_of_records) (q := view (OpenLaw.row PySem.Challenge.rw_keencone_k60_texts_of_records).prog [41]) (H := Pk.hk) (ob := Pk.ob) (M := 4000) (loose := Pk.names) (d := HandSHeadRun.topDef (OpenLaw.row PySem.Challenge.rw_keencone_k60_texts_of_records).prog 41) (kwd := []) Pk.ob_eq
    (by kernel_rfl) (fun s => by kernel_rfl) Pk.run (by kernel_rfl) (by kernel_rfl) (by kernel_rfl) (by rfl) (by first | assumption | decide +kernel) (by decide +kernel) ⟨rfl, rfl, rfl, rfl, rfl, by decide +kernel⟩ ?hw ?hc
  case hw => w_witness2
  case hc =>
    refine Dt.walkG (l := PySem.Challenge.rw_keencone_k60_texts_of_records) (k := 7) (x := "_law_script") rfl (by kernel_rfl) ⟨rfl, by decide, by decide⟩ ?F
    intro w mg fa h Y G hmg0
    obtain ⟨K, KX, c⟩ := Y
    have hmg : mg ("law" : PySem.Str) = some (.ref fa) := by
      have e : (HandSHeadRun.topDef (OpenLaw.row PySem.Challenge.rw_keencone_k60_texts_of_records).prog 41).name = ("law" : PySem.Str) := by kernel_rfl
      rw [← e]
      exact hmg0
    obtain ⟨fd, hb, hF⟩ := Pk.facts (P := (PySem.Challenge.rw_keencone_k60_texts_of_records).prog) (w := w) KX G hmg c
    exact ⟨K, fd, KX, hb, hF⟩
